import PyProof.Rows.All
import Wide.All
import OpenK.AllK
import Wide.FinOn
import HandS.ForMost
import HandS.ForExc
import HandS.IsInst
import HandS.Flow
import HandS.Conv
import HandS.Codes
import KE.KDictKeyed
import KE.SortData
import HandS.TupAny
import HandS.Deep
import HandS.StrMore
import HandS.WordsExc
import HandS.ExcOwn
import HandS.ExcInit
import HandS.SetTxt0
import HandS.SetFor
import HandS.Strs
import HandS.More
import PyProof.Rows.SortShellAny
import HandS.HeadHook2
import PySem.Challenge.RW_curtain_k68_plans_as_texts
set_option Elab.async false
set_option linter.all false
set_option maxRecDepth 100000
set_option maxHeartbeats 4000000
/-! The data layer, part a: data D, what a value stands for (Dt), how the known heap grows (Gr), the slots' state (StOk). -/
namespace DL
open PySem PySem.Spec PyProof.Rows L2

/-- a datum: what a Python value stands for; src: a drawer of numbers; obj: an instance that never changes -/
inductive D where
  | non | bl (b : Bool) | int (i : Int) | str (x : List Nat)
  | tup (xs : List D) | lst (xs : List D)
  | frl (ns : List Int)
  | src
  | pw (C a : Addr) (ws : List D)
  | obj (C : Addr) (fs : List (PySem.Str × D))
  | dct (kvs : List (List Key × D))
  | fn (a : Addr)
  | ty (n : String)

/-- the text of some codes -/
def S (x : List Nat) : PySem.Str := ⟨x.toArray⟩
def okS (x : List Nat) : Bool := x.all (· < 0x110000)
mutual
def Dt (K : PySem.W.Frag) (H : Hp) : D → V → Prop
  | .non, v => v = .non
  | .bl b, v => v = .bl b
  | .int i, v => v = .int i
  | .str x, v => v = .str (S x) ∧ okS x = true
  | .tup xs, v => ∃ a vs, v = .ref a ∧ SqT K H a vs ∧ Dts K H xs vs
  | .lst xs, v => ∃ a vs, v = .ref a ∧ H a = some (.lst vs) ∧ Dts K H xs vs
  | .frl ns, v => ∃ a, v = .ref a ∧ SqL K H a (ns.map V.int)
  | .src, v => ∃ a, v = .ref a ∧ H a = some (.tbl #[])
  | .pw C a ws, v => ∃ l dx vs, v = .ref a ∧ H a = some (.tbl #[.ref C, .ref l, .ref dx]) ∧ H l = some (.lst vs) ∧ Dts K H ws vs
  | .obj C fs, v => ∃ a dx ws, v = .ref a ∧ H a = some (.ins C dx ws) ∧ Dfs K H fs ws
  | .dct kvs, v => ∃ a ws, v = .ref a ∧ H a = some (.dT ws) ∧ Dks K H kvs ws
  | .fn a, v => v = .ref a
  | .ty n, v => v = .ty n
def Dts (K : PySem.W.Frag) (H : Hp) : List D → List V → Prop
  | [], vs => vs = []
  | d :: ds, vs => ∃ v ws, vs = v :: ws ∧ Dt K H d v ∧ Dts K H ds ws
def Dfs (K : PySem.W.Frag) (H : Hp) : List (PySem.Str × D) → List (PySem.Str × V) → Prop
  | [], ws => ws = []
  | (f, d) :: r, ws => ∃ v q, ws = (f, v) :: q ∧ Dt K H d v ∧ Dfs K H r q
def Dks (K : PySem.W.Frag) (H : Hp) : List (List Key × D) → List (List Key × V) → Prop
  | [], ws => ws = []
  | (f, d) :: r, ws => ∃ v q, ws = (f, v) :: q ∧ Dt K H d v ∧ Dks K H r q
end

mutual
/-- nothing in it that could ever change: numbers, texts, tuples of such -/
def D.solid : D → Bool
  | .non | .bl _ | .int _ | .str _ | .ty _ | .fn _ => true
  | .tup xs => D.solids xs
  | .lst _ | .frl _ | .src | .pw _ _ _ | .obj _ _ | .dct _ => false
def D.solids : List D → Bool
  | [] => true
  | d :: ds => d.solid && D.solids ds
end

theorem rd_same {H H' : Hp} {a : Addr} {u : HO} (e : Same H H') (h : Rd H a u) : Rd H' a u := by
  rcases h with h | ⟨o, h⟩
  · exact .inl (e _ _ h)
  · exact .inr ⟨o, e _ _ h⟩
theorem sqT_same {K : PySem.W.Frag} {H H' : Hp} {a : Addr} {vs : List V} (e : Same H H') (h : SqT K H a vs) : SqT K H' a vs := by
  rcases h with h | h
  · exact .inl (rd_same e h)
  · exact .inr h

mutual
theorem Dt.mono {K : PySem.W.Frag} {H H' : Hp} (e : Same H H') : ∀ (d : D) (v : V), Dt K H d v → Dt K H' d v
  | .non, _, h => h
  | .bl _, _, h => h
  | .int _, _, h => h
  | .str _, _, h => h
  | .tup xs, v, h => by
    obtain ⟨a, vs, e1, hs, hd⟩ := h
    exact ⟨a, vs, e1, sqT_same e hs, Dts.mono e xs vs hd⟩
  | .lst xs, v, h => by
    obtain ⟨a, vs, e1, hs, hd⟩ := h
    exact ⟨a, vs, e1, e _ _ hs, Dts.mono e xs vs hd⟩
  | .frl ns, v, h => by
    obtain ⟨a, e1, hs⟩ := h
    exact ⟨a, e1, e.seq hs⟩
  | .src, v, h => by
    obtain ⟨a, e1, h1⟩ := h
    exact ⟨a, e1, e _ _ h1⟩
  | .pw C a ws, v, h => by
    obtain ⟨l, dx, vs, e1, h1, h2, h3⟩ := h
    exact ⟨l, dx, vs, e1, e _ _ h1, e _ _ h2, Dts.mono e ws vs h3⟩
  | .obj C fs, v, h => by
    obtain ⟨a, dx, ws, e1, h1, h2⟩ := h
    exact ⟨a, dx, ws, e1, e _ _ h1, Dfs.mono e fs ws h2⟩
  | .dct kvs, v, h => by
    obtain ⟨a, ws, e1, h1, h2⟩ := h
    exact ⟨a, ws, e1, e _ _ h1, Dks.mono e kvs ws h2⟩
  | .fn _, _, h => h
  | .ty _, _, h => h
theorem Dts.mono {K : PySem.W.Frag} {H H' : Hp} (e : Same H H') : ∀ (ds : List D) (vs : List V), Dts K H ds vs → Dts K H' ds vs
  | [], _, h => h
  | d :: ds, vs, h => by
    obtain ⟨v, ws, e1, h1, h2⟩ := h
    exact ⟨v, ws, e1, Dt.mono e d v h1, Dts.mono e ds ws h2⟩
theorem Dfs.mono {K : PySem.W.Frag} {H H' : Hp} (e : Same H H') : ∀ (ds : List (PySem.Str × D)) (vs : List (PySem.Str × V)), Dfs K H ds vs → Dfs K H' ds vs
  | [], _, h => h
  | (f, d) :: ds, vs, h => by
    obtain ⟨v, ws, e1, h1, h2⟩ := h
    exact ⟨v, ws, e1, Dt.mono e d v h1, Dfs.mono e ds ws h2⟩
theorem Dks.mono {K : PySem.W.Frag} {H H' : Hp} (e : Same H H') : ∀ (ds : List (List Key × D)) (vs : List (List Key × V)), Dks K H ds vs → Dks K H' ds vs
  | [], _, h => h
  | (f, d) :: ds, vs, h => by
    obtain ⟨v, ws, e1, h1, h2⟩ := h
    exact ⟨v, ws, e1, Dt.mono e d v h1, Dks.mono e ds ws h2⟩
end

/-- tuples that are tracked stay, from H to H' -/
def Tups (H H' : Hp) : Prop := ∀ a xs, (H a = some (.tup xs) → H' a = some (.tup xs)) ∧ ∀ o, H a = some (.frz o (.tup xs)) → H' a = some (.frz o (.tup xs))
theorem sqT_tups {K : PySem.W.Frag} {H H' : Hp} {a : Addr} {vs : List V} (e : Tups H H') (h : SqT K H a vs) : SqT K H' a vs := by
  rcases h with (h | ⟨o, h⟩) | h
  · exact .inl (.inl ((e a vs).1 h))
  · exact .inl (.inr ⟨o, (e a vs).2 o h⟩)
  · exact .inr h
mutual
theorem Dt.solid_mono {K : PySem.W.Frag} {H H' : Hp} (e : Tups H H') : ∀ (d : D) (v : V), d.solid = true → Dt K H d v → Dt K H' d v
  | .non, _, _, h => h
  | .bl _, _, _, h => h
  | .int _, _, _, h => h
  | .str _, _, _, h => h
  | .tup xs, v, s, h => by
    obtain ⟨a, vs, e1, hs, hd⟩ := h
    rw [D.solid] at s
    exact ⟨a, vs, e1, sqT_tups e hs, Dts.solid_mono e xs vs s hd⟩
  | .lst xs, v, s, h => by rw [D.solid] at s; cases s
  | .frl xs, v, s, h => by rw [D.solid] at s; cases s
  | .src, v, s, h => by rw [D.solid] at s; cases s
  | .pw C a ws, v, s, h => by rw [D.solid] at s; cases s
  | .obj C fs, v, s, h => by rw [D.solid] at s; cases s
  | .dct kvs, v, s, h => by rw [D.solid] at s; cases s
  | .fn _, _, _, h => h
  | .ty _, _, _, h => h
theorem Dts.solid_mono {K : PySem.W.Frag} {H H' : Hp} (e : Tups H H') : ∀ (ds : List D) (vs : List V), D.solids ds = true → Dts K H ds vs → Dts K H' ds vs
  | [], _, _, h => h
  | d :: ds, vs, s, h => by
    obtain ⟨v, ws, e1, h1, h2⟩ := h
    rw [D.solids, Bool.and_eq_true] at s
    exact ⟨v, ws, e1, Dt.solid_mono e d v s.1 h1, Dts.solid_mono e ds ws s.2 h2⟩
end

theorem Dts.length {K : PySem.W.Frag} {H : Hp} : ∀ {ds : List D} {vs : List V}, Dts K H ds vs → ds.length = vs.length
  | [], _, h => by
    obtain rfl : _ = [] := h
    rfl
  | d :: ds, vs, h => by
    obtain ⟨v, ws, rfl, _, h2⟩ := h
    rw [List.length_cons, List.length_cons, Dts.length h2]
theorem Dts.get {K : PySem.W.Frag} {H : Hp} : ∀ {ds : List D} {vs : List V} {i : Nat} {d : D}, Dts K H ds vs → ds[i]? = some d → ∃ v, vs[i]? = some v ∧ Dt K H d v
  | [], _, _, _, _, e => by simp at e
  | d :: ds, vs, 0, x, h, e => by
    obtain ⟨v, ws, rfl, h1, h2⟩ := h
    obtain rfl : d = x := Option.some.inj e
    exact ⟨v, rfl, h1⟩
  | d :: ds, vs, i + 1, x, h, e => by
    obtain ⟨v, ws, rfl, h1, h2⟩ := h
    exact Dts.get (i := i) h2 e
theorem Dts.getV {K : PySem.W.Frag} {H : Hp} {ds : List D} {vs : List V} {i : Nat} {v : V} (h : Dts K H ds vs) (e : vs[i]? = some v) : ∃ d, ds[i]? = some d ∧ Dt K H d v := by
  have hl := h.length
  have hi := (List.getElem?_eq_some_iff.mp e).1
  have hd : ds[i]? = some (ds[i]'(by omega)) := List.getElem?_eq_getElem (by omega)
  obtain ⟨w, e1, h1⟩ := h.get hd
  rw [e] at e1
  cases e1
  exact ⟨_, hd, h1⟩
theorem Dts.append {K : PySem.W.Frag} {H : Hp} : ∀ {ds es : List D} {vs ws : List V}, Dts K H ds vs → Dts K H es ws → Dts K H (ds ++ es) (vs ++ ws)
  | [], es, vs, ws, h, g => by
    obtain rfl : vs = [] := h
    exact g
  | d :: ds, es, vs, ws, h, g => by
    obtain ⟨v, us, rfl, h1, h2⟩ := h
    exact ⟨v, us ++ ws, rfl, h1, Dts.append h2 g⟩
theorem Dts.one {K : PySem.W.Frag} {H : Hp} {d : D} {v : V} (h : Dt K H d v) : Dts K H [d] [v] := ⟨v, [], rfl, h, rfl⟩
theorem Dts.take {K : PySem.W.Frag} {H : Hp} : ∀ {ds : List D} {vs : List V} (n : Nat), Dts K H ds vs → Dts K H (ds.take n) (vs.take n)
  | _, _, 0, _ => rfl
  | [], vs, n + 1, h => by
    obtain rfl : vs = [] := h
    rfl
  | d :: ds, vs, n + 1, h => by
    obtain ⟨v, us, rfl, h1, h2⟩ := h
    exact ⟨v, us.take n, rfl, h1, Dts.take n h2⟩
theorem Dts.drop {K : PySem.W.Frag} {H : Hp} : ∀ {ds : List D} {vs : List V} (n : Nat), Dts K H ds vs → Dts K H (ds.drop n) (vs.drop n)
  | _, _, 0, h => h
  | [], vs, n + 1, h => by
    obtain rfl : vs = [] := h
    rfl
  | d :: ds, vs, n + 1, h => by
    obtain ⟨v, us, rfl, h1, h2⟩ := h
    exact Dts.drop n h2
theorem Dts.set {K : PySem.W.Frag} {H : Hp} {d : D} {v : V} (g : Dt K H d v) : ∀ {ds : List D} {vs : List V} (n : Nat), Dts K H ds vs → Dts K H (ds.set n d) (vs.set n v)
  | [], vs, n, h => by
    obtain rfl : vs = [] := h
    exact rfl
  | x :: ds, vs, 0, h => by
    obtain ⟨w, us, rfl, h1, h2⟩ := h
    exact ⟨v, us, rfl, g, h2⟩
  | x :: ds, vs, n + 1, h => by
    obtain ⟨w, us, rfl, h1, h2⟩ := h
    exact ⟨w, us.set n v, rfl, h1, Dts.set g n h2⟩
theorem Dts.ints {K : PySem.W.Frag} {H : Hp} : ∀ (ns : List Int), Dts K H (ns.map D.int) (ns.map V.int)
  | [] => rfl
  | n :: ns => ⟨.int n, ns.map V.int, rfl, rfl, Dts.ints ns⟩
theorem Dts.strs_v {K : PySem.W.Frag} {H : Hp} : ∀ {ns : List (List Nat)} {vs : List V}, Dts K H (ns.map D.str) vs → vs = ns.map (fun c => V.str (S c)) ∧ ∀ c ∈ ns, okS c = true
  | [], vs, h => ⟨h, fun _ h => (by cases h)⟩
  | n :: ns, vs, h => by
    obtain ⟨v, us, rfl, ⟨rfl, h1⟩, h2⟩ := h
    obtain ⟨rfl, h3⟩ := Dts.strs_v h2
    refine ⟨rfl, fun c hc => ?_⟩
    rcases List.mem_cons.mp hc with rfl | hc
    · exact h1
    · exact h3 c hc
theorem Dts.strs {K : PySem.W.Frag} {H : Hp} : ∀ (ns : List (List Nat)), (∀ c ∈ ns, okS c = true) → Dts K H (ns.map D.str) (ns.map (fun c => V.str (S c)))
  | [], _ => rfl
  | n :: ns, h => ⟨.str (S n), ns.map (fun c => V.str (S c)), rfl, ⟨rfl, h n List.mem_cons_self⟩, Dts.strs ns fun c hc => h c (List.mem_cons_of_mem _ hc)⟩
theorem Dts.ints_v {K : PySem.W.Frag} {H : Hp} : ∀ {ns : List Int} {vs : List V}, Dts K H (ns.map D.int) vs → vs = ns.map V.int
  | [], vs, h => h
  | n :: ns, vs, h => by
    obtain ⟨v, us, rfl, h1, h2⟩ := h
    obtain rfl : v = .int n := h1
    rw [Dts.ints_v h2]
    rfl

/-! ### drawers, the known heap -/
/-- what changes unseen: how many draws at most, the place of the words that are gone through -/
structure Gh where
  n : Nat
  at_ : Addr
  pl : Int
/-- a drawer stands at a: three numbers, the third at most n -/
def SrcAt (H : Hp) (a : Addr) (n : Nat) : Prop := ∃ A B C : Int, H a = some (.lst [.int A, .int B, .int C]) ∧ 0 ≤ A ∧ 0 ≤ B ∧ B < 2147483647 ∧ 0 ≤ C ∧ C ≤ n
/-- marks of things that change -/
def isM : HO → Bool
  | .tbl _ => true
  | _ => false
def pwM (C l dx : Addr) : HO := .tbl #[.ref C, .ref l, .ref dx]
def MarkAt (H : Hp) (a : Addr) (g : Gh) (o : HO) : Prop := (o = .tbl #[] ∧ SrcAt H a g.n) ∨ ∃ C l dx i, o = pwM C l dx ∧ H a = some (.ins C dx [("words", .ref l), ("place", .int i)]) ∧ (g.at_ = a → i = g.pl)
theorem MarkAt.some {H : Hp} {a : Addr} {g : Gh} {o : HO} (h : MarkAt H a g o) : ∃ u, H a = some u ∧ ∀ xs, u ≠ .tup xs := by
  rcases h with ⟨_, A, B, C, h1, _⟩ | ⟨C, l, dx, i, _, h1, _⟩
  · exact ⟨_, h1, fun _ z => by cases z⟩
  · exact ⟨_, h1, fun _ z => by cases z⟩
theorem MarkAt.same {H H' : Hp} {a : Addr} {g : Gh} {o : HO} (h : MarkAt H a g o) (e : ∀ u, H a = Option.some u → H' a = Option.some u) : MarkAt H' a g o := by
  rcases h with ⟨e1, A, B, C, h1, h2⟩ | ⟨C, l, dx, i, e1, h1, h2⟩
  · exact .inl ⟨e1, A, B, C, e _ h1, h2⟩
  · exact .inr ⟨C, l, dx, i, e1, e _ h1, h2⟩
/-- what is known is so; what is marked stands as its mark says -/
def Kno (Kn H : Hp) (n : Gh) : Prop := ∀ a o, Kn a = some o → (isM o = true ∧ MarkAt H a n o) ∨ (isM o = false ∧ H a = some o)
structure Gr (Kn H : Hp) (Kn' H' : Hp) (n' : Gh) : Prop where
  kk : Same Kn Kn'
  hh : ∀ a o, H a = some o → (∃ u, Kn a = some u ∧ isM u = true) ∨ H' a = some o
  ha : ∀ a, H' a = none → H a = none
  kh : Kno Kn' H' n'
  nw : ∀ a o, Kn' a = some o → Kn a = none → H a = none ∨ ∃ xs, o = .tup xs
theorem Kno.of {Kn H : Hp} {n : Gh} (k : Kno Kn H n) {a : Addr} {o : HO} (h : Kn a = some o) (ne : isM o = false) : H a = some o := by
  rcases k a o h with ⟨e, _⟩ | ⟨_, e⟩
  · rw [ne] at e; cases e
  · exact e
theorem Kno.at {Kn H : Hp} {n : Gh} (k : Kno Kn H n) {a : Addr} {o : HO} (h : Kn a = some o) (m : isM o = true) : MarkAt H a n o := by
  rcases k a _ h with ⟨_, e⟩ | ⟨e, _⟩
  · exact e
  · rw [m] at e; cases e
theorem Kno.src {Kn H : Hp} {n : Gh} (k : Kno Kn H n) {a : Addr} (h : Kn a = some (.tbl #[])) : SrcAt H a n.n := by
  rcases k.at h rfl with ⟨_, e⟩ | ⟨C, l, dx, i, e, _⟩
  · exact e
  · cases e
theorem Kno.pw {Kn H : Hp} {n : Gh} (k : Kno Kn H n) {a C l dx : Addr} (h : Kn a = some (pwM C l dx)) (q : n.at_ = a) : H a = some (.ins C dx [("words", .ref l), ("place", .int n.pl)]) := by
  rcases k.at h rfl with ⟨e, _⟩ | ⟨C', l', dx', i, e, h1, h2⟩
  · cases e
  · cases e
    rw [← h2 q]
    exact h1
theorem Gr.refl {Kn H : Hp} {n : Gh} (k : Kno Kn H n) : Gr Kn H Kn H n :=
  ⟨Same.refl _, fun _ _ h => .inr h, fun _ h => h, k, fun a o h1 h2 => by rw [h1] at h2; cases h2⟩
theorem Gr.trans {Kn H Kn1 H1 Kn2 H2 : Hp} {n1 n2 : Gh} (g : Gr Kn H Kn1 H1 n1) (f : Gr Kn1 H1 Kn2 H2 n2) : Gr Kn H Kn2 H2 n2 where
  kk := g.kk.trans f.kk
  hh := fun a o h => by
    rcases g.hh a o h with z | z
    · exact .inl z
    · rcases f.hh a o z with ⟨v, y, m⟩ | y
      · cases q : Kn a with
        | none =>
          rcases g.nw a _ y q with x | ⟨xs, x⟩
          · rw [h] at x; cases x
          · subst x; cases m
        | some u =>
          have e := g.kk a u q
          rw [y] at e
          cases e
          exact .inl ⟨_, rfl, m⟩
      · exact .inr y
  ha := fun a h => g.ha a (f.ha a h)
  kh := f.kh
  nw := fun a o h1 h2 => by
    cases q : Kn1 a with
    | some u =>
      have e := f.kk a u q
      rw [h1] at e; cases e
      exact g.nw a o q h2
    | none =>
      rcases f.nw a o h1 q with x | x
      · exact .inl (g.ha a x)
      · exact .inr x
/-- nothing known changes, but new things stand -/
theorem Gr.ext {Kn H H' : Hp} {n : Gh} (k : Kno Kn H n) (e : Same H H') : Gr Kn H Kn H' n where
  kk := Same.refl _
  hh := fun a o h => .inr (e a o h)
  ha := fun a h => e.free h
  kh := fun a o h => by
    rcases k a o h with ⟨e1, h1⟩ | ⟨e1, h1⟩
    · exact .inl ⟨e1, h1.same fun u z => e a u z⟩
    · exact .inr ⟨e1, e a _ h1⟩
  nw := fun a o h1 h2 => by rw [h1] at h2; cases h2
/-- a new thing, known from now on -/
theorem Gr.new {Kn H : Hp} {n : Gh} {p : Addr} {o : HO} (k : Kno Kn H n) (hp : H p = none) (ne : isM o = false) : Gr Kn H (upd Kn p o) (upd H p o) n := by
  have kp : Kn p = none := by
    cases q : Kn p with
    | none => rfl
    | some u =>
      rcases k p u q with ⟨_, h1⟩ | ⟨_, h1⟩
      · obtain ⟨v, h1, _⟩ := h1.some
        rw [hp] at h1; cases h1
      · rw [hp] at h1; cases h1
  refine ⟨fun a u h => ?_, fun a u h => ?_, fun a h => ?_, fun a u h => ?_, fun a u h1 h2 => ?_⟩
  · rw [upd_ne (ne_of_none h kp)]; exact h
  · rw [upd_ne (ne_of_none h hp)]; exact .inr h
  · by_cases e : a = p
    · subst e; exact hp
    · rw [upd_ne e] at h; exact h
  · by_cases e : a = p
    · subst e
      rw [upd_same] at h; cases h
      exact .inr ⟨ne, upd_same⟩
    · rw [upd_ne e] at h
      rcases k a u h with ⟨e1, h1⟩ | ⟨e1, h1⟩
      · exact .inl ⟨e1, h1.same fun v z => by rw [upd_ne e]; exact z⟩
      · exact .inr ⟨e1, by rw [upd_ne e]; exact h1⟩
  · by_cases e : a = p
    · subst e; exact .inl hp
    · rw [upd_ne e, h2] at h1; cases h1
theorem Kno.free {Kn H : Hp} {n : Gh} (k : Kno Kn H n) {p : Addr} (hp : H p = none) : Kn p = none := by
  cases q : Kn p with
  | none => rfl
  | some u =>
    rcases k p u q with ⟨_, h1⟩ | ⟨_, h1⟩
    · obtain ⟨v, h1, _⟩ := h1.some
      rw [hp] at h1; cases h1
    · rw [hp] at h1; cases h1
/-- a thing that stands and was new at the start becomes known -/
theorem Gr.learn {Kn H Kn' H' : Hp} {n : Gh} {p : Addr} {o : HO} (g : Gr Kn H Kn' H' n) (h0 : H p = none) (h1 : H' p = some o) (k1 : Kn' p = none) (ne : isM o = false) : Gr Kn H (upd Kn' p o) H' n where
  kk := fun a u h => by
    have e := g.kk a u h
    rw [upd_ne (ne_of_none e k1)]; exact e
  hh := g.hh
  ha := g.ha
  kh := fun a u h => by
    by_cases e : a = p
    · subst e
      rw [upd_same] at h; cases h
      exact .inr ⟨ne, h1⟩
    · rw [upd_ne e] at h
      exact g.kh a u h
  nw := fun a u h h2 => by
    by_cases e : a = p
    · subst e; exact .inl h0
    · rw [upd_ne e] at h
      exact g.nw a u h h2

/-! ### the slots -/
/-- a slot: anything | a datum | a list of the def's own, its items data -/
inductive Sl where
  | u | d (x : D) | l (xs : List D)
def SlOk (K : PySem.W.Frag) (E0 Kn H : Hp) : Sl → Option V → Prop
  | .u, _ => True
  | .d x, ov => ∃ v, ov = some v ∧ Dt K Kn x v
  | .l xs, ov => ∃ p vs, ov = some (.ref p) ∧ Kn p = none ∧ E0 p = none ∧ H p = some (.lst vs) ∧ Dts K Kn xs vs
def Sl.own : Sl → Bool
  | .l _ => true
  | _ => false
structure StOk (K : PySem.W.Frag) (δ : List Sl) (σ : L2.St) (E0 Kn H : Hp) (n : Gh) : Prop where
  kno : Kno Kn H n
  dom : ∀ a, H a = none → E0 a = none
  len : σ.length = δ.length
  at_ : ∀ (i : Nat) (s : Sl), δ[i]? = some s → ∃ ov, σ[i]? = some ov ∧ SlOk K E0 Kn H s ov
  sep : ∀ (i j : Nat) (s t : Sl) (p : Addr), δ[i]? = some s → δ[j]? = some t → s.own = true → t.own = true → σ[i]? = some (some (.ref p)) → σ[j]? = some (some (.ref p)) → i = j

theorem SlOk.gr {K : PySem.W.Frag} {E0 Kn H Kn' H' : Hp} {n : Gh} (g : Gr Kn H Kn' H' n) : ∀ {s : Sl} {ov : Option V}, SlOk K E0 Kn H s ov → SlOk K E0 Kn' H' s ov
  | .u, _, _ => trivial
  | .d x, _, h => by
    obtain ⟨v, e, h⟩ := h
    exact ⟨v, e, Dt.mono g.kk x v h⟩
  | .l xs, _, h => by
    obtain ⟨p, vs, e, h1, h2, h3, h4⟩ := h
    have h3' : H' p = some (.lst vs) := by
      rcases g.hh p _ h3 with ⟨u, z, _⟩ | z
      · rw [h1] at z; cases z
      · exact z
    refine ⟨p, vs, e, ?_, h2, h3', Dts.mono g.kk xs vs h4⟩
    cases q : Kn' p with
    | none => rfl
    | some u =>
      rcases g.nw p u q h1 with z | ⟨ys, z⟩
      · rw [h3] at z; cases z
      · subst z
        have z2 := g.kh.of q rfl
        rw [h3'] at z2; cases z2
theorem StOk.gr {K : PySem.W.Frag} {δ : List Sl} {σ : L2.St} {E0 Kn H Kn' H' : Hp} {n n' : Gh} (s : StOk K δ σ E0 Kn H n) (g : Gr Kn H Kn' H' n') : StOk K δ σ E0 Kn' H' n' where
  kno := g.kh
  dom := fun a h => s.dom a (g.ha a h)
  len := s.len
  at_ := fun i t h => by
    obtain ⟨ov, e, q⟩ := s.at_ i t h
    exact ⟨ov, e, q.gr g⟩
  sep := s.sep
theorem StOk.datum {K : PySem.W.Frag} {δ : List Sl} {σ : L2.St} {E0 Kn H : Hp} {n : Gh} (s : StOk K δ σ E0 Kn H n) {i : Nat} {x : D} (h : δ[i]? = some (.d x)) : ∃ v, σ[i]? = some (some v) ∧ Dt K Kn x v := by
  obtain ⟨ov, e, v, e1, q⟩ := s.at_ i _ h
  exact ⟨v, by rw [e, e1], q⟩
theorem StOk.list {K : PySem.W.Frag} {δ : List Sl} {σ : L2.St} {E0 Kn H : Hp} {n : Gh} (s : StOk K δ σ E0 Kn H n) {i : Nat} {xs : List D} (h : δ[i]? = some (.l xs)) :
    ∃ p vs, σ[i]? = some (some (.ref p)) ∧ Kn p = none ∧ E0 p = none ∧ H p = some (.lst vs) ∧ Dts K Kn xs vs := by
  obtain ⟨ov, e, p, vs, e1, q⟩ := s.at_ i _ h
  exact ⟨p, vs, by rw [e, e1], q⟩
/-- a slot gets a datum -/
theorem StOk.setD {K : PySem.W.Frag} {δ : List Sl} {σ : L2.St} {E0 Kn H : Hp} {n : Gh} (s : StOk K δ σ E0 Kn H n) (i : Nat) {x : D} {v : V} (h : Dt K Kn x v) : StOk K (δ.set i (.d x)) (σ.set i (some v)) E0 Kn H n where
  kno := s.kno
  dom := s.dom
  len := by rw [List.length_set, List.length_set, s.len]
  at_ := fun j t e => by
    by_cases hj : i = j
    · subst hj
      have hi : i < δ.length := by
        have := (List.getElem?_eq_some_iff.mp e).1
        rwa [List.length_set] at this
      rw [List.getElem?_set_self hi] at e
      cases e
      exact ⟨some v, List.getElem?_set_self (by rw [s.len]; exact hi), v, rfl, h⟩
    · rw [List.getElem?_set_ne hj] at e
      obtain ⟨ov, e1, q⟩ := s.at_ j t e
      exact ⟨ov, by rw [List.getElem?_set_ne hj]; exact e1, q⟩
  sep := fun j k t u p e1 e2 o1 o2 e3 e4 => by
    have nj : i ≠ j := fun q => by
      subst q
      have hi : i < δ.length := by
        have := (List.getElem?_eq_some_iff.mp e1).1
        rwa [List.length_set] at this
      rw [List.getElem?_set_self hi] at e1
      cases e1; cases o1
    have nk : i ≠ k := fun q => by
      subst q
      have hi : i < δ.length := by
        have := (List.getElem?_eq_some_iff.mp e2).1
        rwa [List.length_set] at this
      rw [List.getElem?_set_self hi] at e2
      cases e2; cases o2
    rw [List.getElem?_set_ne nj] at e1 e3
    rw [List.getElem?_set_ne nk] at e2 e4
    exact s.sep j k t u p e1 e2 o1 o2 e3 e4
/-- a slot gets a new list -/
theorem StOk.setL {K : PySem.W.Frag} {δ : List Sl} {σ : L2.St} {E0 Kn H : Hp} {n : Gh} (s : StOk K δ σ E0 Kn H n) (i : Nat) {xs : List D} {p : Addr} {vs : List V} (h1 : Kn p = none) (h2 : E0 p = none) (h3 : H p = some (.lst vs)) (h4 : Dts K Kn xs vs)
    (fr : ∀ (j : Nat) (t : Sl), δ[j]? = some t → t.own = true → σ[j]? ≠ some (some (.ref p))) : StOk K (δ.set i (.l xs)) (σ.set i (some (.ref p))) E0 Kn H n where
  kno := s.kno
  dom := s.dom
  len := by rw [List.length_set, List.length_set, s.len]
  at_ := fun j t e => by
    by_cases hj : i = j
    · subst hj
      have hi : i < δ.length := by
        have := (List.getElem?_eq_some_iff.mp e).1
        rwa [List.length_set] at this
      rw [List.getElem?_set_self hi] at e
      cases e
      exact ⟨_, List.getElem?_set_self (by rw [s.len]; exact hi), p, vs, rfl, h1, h2, h3, h4⟩
    · rw [List.getElem?_set_ne hj] at e
      obtain ⟨ov, e1, q⟩ := s.at_ j t e
      exact ⟨ov, by rw [List.getElem?_set_ne hj]; exact e1, q⟩
  sep := fun j k t u q e1 e2 o1 o2 e3 e4 => by
    by_cases nj : i = j
    · subst nj
      by_cases nk : i = k
      · exact nk
      · have hi : i < σ.length := by
          have := (List.getElem?_eq_some_iff.mp e3).1
          rwa [List.length_set] at this
        rw [List.getElem?_set_self hi] at e3
        cases e3
        rw [List.getElem?_set_ne nk] at e2 e4
        exact absurd e4 (fr k u e2 o2)
    · by_cases nk : i = k
      · subst nk
        have hi : i < σ.length := by
          have := (List.getElem?_eq_some_iff.mp e4).1
          rwa [List.length_set] at this
        rw [List.getElem?_set_self hi] at e4
        cases e4
        rw [List.getElem?_set_ne nj] at e1 e3
        exact absurd e3 (fr j t e1 o1)
      · rw [List.getElem?_set_ne nj] at e1 e3
        rw [List.getElem?_set_ne nk] at e2 e4
        exact s.sep j k t u q e1 e2 o1 o2 e3 e4
/-- the own list in a slot is changed -/
theorem StOk.write {K : PySem.W.Frag} {δ : List Sl} {σ : L2.St} {E0 Kn H : Hp} {n : Gh} (s : StOk K δ σ E0 Kn H n) {i : Nat} {xs ys : List D} {p : Addr} {vs : List V} (e : δ[i]? = some (.l xs)) (e1 : σ[i]? = some (some (.ref p))) (h : Dts K Kn ys vs) :
    StOk K (δ.set i (.l ys)) σ E0 Kn (upd H p (.lst vs)) n := by
  obtain ⟨p', ws, e2, kp, ep, hp, hd⟩ := s.list e
  rw [e1] at e2; cases e2
  have hi : i < δ.length := (List.getElem?_eq_some_iff.mp e).1
  refine ⟨fun a o q => ?_, fun a q => ?_, by rw [List.length_set]; exact s.len, fun j t q => ?_, fun j k t u q e1' e2 o1 o2 e3 e4 => ?_⟩
  · have na : a ≠ p := ne_of_none q kp
    rcases s.kno a o q with ⟨z1, z2⟩ | ⟨z1, z2⟩
    · exact .inl ⟨z1, z2.same fun v z => by rw [upd_ne na]; exact z⟩
    · exact .inr ⟨z1, by rw [upd_ne na]; exact z2⟩
  · by_cases na : a = p
    · subst na; exact ep
    · rw [upd_ne na] at q; exact s.dom a q
  · by_cases hj : i = j
    · subst hj
      rw [List.getElem?_set_self hi] at q
      cases q
      exact ⟨_, e1, p, vs, rfl, kp, ep, upd_same, h⟩
    · rw [List.getElem?_set_ne hj] at q
      obtain ⟨ov, g1, g2⟩ := s.at_ j t q
      refine ⟨ov, g1, ?_⟩
      cases t with
      | u => trivial
      | d x => exact g2
      | l zs =>
        obtain ⟨p2, vs2, f1, f2, f3, f4, f5⟩ := g2
        subst f1
        have np : p2 ≠ p := fun z => by
          subst z
          exact hj (s.sep i j _ _ p2 e q rfl rfl e1 g1)
        exact ⟨p2, vs2, rfl, f2, f3, by rw [upd_ne np]; exact f4, f5⟩
  · have back : ∀ {m : Nat} {t : Sl}, (δ.set i (.l ys))[m]? = some t → t.own = true → ∃ t', δ[m]? = some t' ∧ t'.own = true := fun {m t} q o => by
      by_cases hm : i = m
      · subst hm; exact ⟨_, e, rfl⟩
      · rw [List.getElem?_set_ne hm] at q; exact ⟨t, q, o⟩
    obtain ⟨t', a1, a2⟩ := back e1' o1
    obtain ⟨u', b1, b2⟩ := back e2 o2
    exact s.sep j k t' u' q a1 b1 a2 b2 e3 e4
/-- an own list is a datum from now on -/
theorem StOk.freeze {K : PySem.W.Frag} {δ : List Sl} {σ : L2.St} {E0 Kn H : Hp} {n : Gh} (s : StOk K δ σ E0 Kn H n) {i : Nat} {xs : List D} (e : δ[i]? = some (.l xs)) :
    ∃ p vs, StOk K (δ.set i (.d (.lst xs))) σ E0 (upd Kn p (.lst vs)) H n ∧ E0 p = none ∧ H p = some (.lst vs) ∧ Kn p = none := by
  obtain ⟨p, vs, e1, kp, ep, hp, hd⟩ := s.list e
  have hi : i < δ.length := (List.getElem?_eq_some_iff.mp e).1
  have sm : Same Kn (upd Kn p (.lst vs)) := fun a o q => by rw [upd_ne (ne_of_none q kp)]; exact q
  refine ⟨p, vs, ⟨fun a o q => ?_, s.dom, by rw [List.length_set]; exact s.len, fun j t q => ?_, fun j k t u q e1' e2 o1 o2 e3 e4 => ?_⟩, ep, hp, kp⟩
  · by_cases na : a = p
    · subst na
      rw [upd_same] at q; cases q
      exact .inr ⟨rfl, hp⟩
    · rw [upd_ne na] at q; exact s.kno a o q
  · by_cases hj : i = j
    · subst hj
      rw [List.getElem?_set_self hi] at q
      cases q
      exact ⟨_, e1, _, rfl, p, vs, rfl, upd_same, Dts.mono sm _ _ hd⟩
    · rw [List.getElem?_set_ne hj] at q
      obtain ⟨ov, g1, g2⟩ := s.at_ j t q
      refine ⟨ov, g1, ?_⟩
      cases t with
      | u => trivial
      | d x =>
        obtain ⟨v, z1, z2⟩ := g2
        exact ⟨v, z1, Dt.mono sm _ _ z2⟩
      | l zs =>
        obtain ⟨p2, vs2, f1, f2, f3, f4, f5⟩ := g2
        subst f1
        have np : p2 ≠ p := fun z => by
          subst z
          exact hj (s.sep i j _ _ p2 e q rfl rfl e1 g1)
        exact ⟨p2, vs2, rfl, by rw [upd_ne np]; exact f2, f3, f4, Dts.mono sm _ _ f5⟩
  · have back : ∀ {m : Nat} {t : Sl}, (δ.set i (.d (.lst xs)))[m]? = some t → t.own = true → δ[m]? = some t := fun {m t} q o => by
      by_cases hm : i = m
      · subst hm
        rw [List.getElem?_set_self hi] at q; cases q; cases o
      · rw [List.getElem?_set_ne hm] at q; exact q
    exact s.sep j k t u q (back e1' o1) (back e2 o2) o1 o2 e3 e4
end DL
/-! The data layer, part b: what an expression is worth (PD), tests (TD), arguments (AD); operators. -/
namespace DL
open PySem PySem.Spec PyProof.Rows L2

/-- what comes of an expression: a datum, a new list that nobody knows yet, the own list of a slot -/
inductive Rs where
  | d (x : D) | n (xs : List D) | b (i : Nat)
/-- an argument -/
inductive Ar where
  | d (x : D) | b (i : Nat)
abbrev PXT := List Sl → Gh → Value → List (PySem.Str × D) → Prop
abbrev WD := List Sl → Gh → (Gh → Rs → Prop) → PXT → Prop
abbrev WT := List Sl → Gh → (Gh → Bool → Prop) → PXT → Prop
abbrev WA := List Sl → Gh → (Gh → List Ar → Prop) → PXT → Prop
def ExRep (K : PySem.W.Frag) (Kn H : Hp) (d : Option Addr) (fs : List (PySem.Str × D)) : Prop :=
  (d = none ∧ fs = []) ∨ ∃ dd ws, d = some dd ∧ H dd = some (.xd ws) ∧ Dfs K Kn fs ws
def Rep (K : PySem.W.Frag) (H0 Kn H : Hp) (σ : L2.St) : Rs → V → Prop
  | .d x, v => Dt K Kn x v
  | .n xs, v => ∃ p vs, v = .ref p ∧ H0 p = none ∧ Kn p = none ∧ H p = some (.lst vs) ∧ Dts K Kn xs vs
  | .b i, v => σ[i]? = some (some v)
def RepA (K : PySem.W.Frag) (Kn : Hp) (σ : L2.St) : List Ar → List V → Prop
  | [], vs => vs = []
  | .d x :: r, vs => ∃ v ws, vs = v :: ws ∧ Dt K Kn x v ∧ RepA K Kn σ r ws
  | .b i :: r, vs => ∃ v ws, vs = v :: ws ∧ σ[i]? = some (some v) ∧ RepA K Kn σ r ws
/-- what is wanted of an exception -/
def ExOk (K : PySem.W.Frag) (E : WX) (δ : List Sl) (PX : PXT) (σ : L2.St) (Kn H : Hp) : Prop :=
  ∀ n' cls fs d Kn' H', Gr Kn H Kn' H' n' → PX δ n' cls fs → ExRep K Kn' H' d fs → E cls d σ H'
def EvD (K : PySem.W.Frag) (E : WX) (δ : List Sl) (n : Gh) (te : TE) (P : Gh → Rs → Prop) (PX : PXT) : Prop :=
  ∀ σ E0 Kn H, StOk K δ σ E0 Kn H n → ∀ Q : VK, (∀ n' r v Kn' H', Gr Kn H Kn' H' n' → P n' r → Rep K H Kn' H' σ r v → Q v H') → ExOk K E δ PX σ Kn H → te σ H Q
def EvB (K : PySem.W.Frag) (E : WX) (δ : List Sl) (n : Gh) (tt : TT) (P : Gh → Bool → Prop) (PX : PXT) : Prop :=
  ∀ σ E0 Kn H, StOk K δ σ E0 Kn H n → ∀ Q : Bool → Hp → Prop, (∀ n' r Kn' H', Gr Kn H Kn' H' n' → P n' r → Q r H') → ExOk K E δ PX σ Kn H → tt σ H Q
def EvAs (K : PySem.W.Frag) (E : WX) (δ : List Sl) (n : Gh) (ta : TA) (P : Gh → List Ar → Prop) (PX : PXT) : Prop :=
  ∀ σ E0 Kn H, StOk K δ σ E0 Kn H n → ∀ Q : List V → Hp → Prop, (∀ n' r vs Kn' H', Gr Kn H Kn' H' n' → P n' r → RepA K Kn' σ r vs → Q vs H') → ExOk K E δ PX σ Kn H → ta σ H Q
def PD (X : Cx) (E : WX) (e : Expr) (w : WD) : Prop := ∃ te, PE X e te ∧ ∀ δ n P PX, w δ n P PX → EvD X.K E δ n te P PX
def TD (X : Cx) (E : WX) (e : Expr) (w : WT) : Prop := ∃ tt, PT X e tt ∧ ∀ δ n P PX, w δ n P PX → EvB X.K E δ n tt P PX
def AD (X : Cx) (E : WX) (es : List Expr) (w : WA) : Prop := ∃ ta, PA X es ta ∧ ∀ δ n P PX, w δ n P PX → EvAs X.K E δ n ta P PX

theorem ExOk.gr {K : PySem.W.Frag} {E : WX} {δ : List Sl} {PX : PXT} {σ : L2.St} {Kn H Kn' H' : Hp} {n' : Gh} (x : ExOk K E δ PX σ Kn H) (g : Gr Kn H Kn' H' n') : ExOk K E δ PX σ Kn' H' :=
  fun m cls fs d Kn2 H2 g2 p r => x m cls fs d Kn2 H2 (g.trans g2) p r
theorem RepA.mono {K : PySem.W.Frag} {Kn Kn' : Hp} {σ : L2.St} (e : Same Kn Kn') : ∀ {as : List Ar} {vs : List V}, RepA K Kn σ as vs → RepA K Kn' σ as vs
  | [], _, h => h
  | .d x :: r, vs, h => by
    obtain ⟨v, ws, e1, h1, h2⟩ := h
    exact ⟨v, ws, e1, Dt.mono e _ _ h1, RepA.mono e h2⟩
  | .b i :: r, vs, h => by
    obtain ⟨v, ws, e1, h1, h2⟩ := h
    exact ⟨v, ws, e1, h1, RepA.mono e h2⟩
/-- a new list, seen from further on -/
theorem Rep.gr {K : PySem.W.Frag} {H0 Kn H Kn' H' : Hp} {σ : L2.St} {n : Gh} (g : Gr Kn H Kn' H' n) : ∀ {r : Rs} {v : V}, Rep K H0 Kn H σ r v → Rep K H0 Kn' H' σ r v
  | .d x, v, h => Dt.mono g.kk x v h
  | .b i, v, h => h
  | .n xs, v, h => by
    obtain ⟨p, vs, e, h0, h1, h2, h3⟩ := h
    have h2' : H' p = some (.lst vs) := by
      rcases g.hh p _ h2 with ⟨u, z, _⟩ | z
      · rw [h1] at z; cases z
      · exact z
    refine ⟨p, vs, e, h0, ?_, h2', Dts.mono g.kk xs vs h3⟩
    cases q : Kn' p with
    | none => rfl
    | some u =>
      rcases g.nw p u q h1 with z | ⟨ys, z⟩
      · rw [h2] at z; cases z
      · subst z
        have z2 := g.kh.of q rfl
        rw [h2'] at z2; cases z2
/-- .. new since earlier -/
theorem Rep.back {K : PySem.W.Frag} {H0 H1 Kn H : Hp} {σ : L2.St} (b : ∀ a, H1 a = none → H0 a = none) : ∀ {r : Rs} {v : V}, Rep K H1 Kn H σ r v → Rep K H0 Kn H σ r v
  | .d x, v, h => h
  | .b i, v, h => h
  | .n xs, v, h => by
    obtain ⟨p, vs, e, h0, h1⟩ := h
    exact ⟨p, vs, e, b p h0, h1⟩
/-- the result as a datum -/
def Rs.dat : Rs → Option D
  | .d x => some x
  | .n xs => some (.lst xs)
  | .b _ => none
def Rs.arg : Rs → Ar
  | .d x => .d x
  | .n xs => .d (.lst xs)
  | .b i => .b i
theorem Rep.dat {K : PySem.W.Frag} {Kn0 H0 Kn H : Hp} {σ : L2.St} {n : Gh} (g : Gr Kn0 H0 Kn H n) {r : Rs} {v : V} {x : D} (h : Rep K H0 Kn H σ r v) (e : r.dat = some x) : ∃ Kn', Gr Kn0 H0 Kn' H n ∧ Same Kn Kn' ∧ Dt K Kn' x v ∧ ∀ a, H0 a ≠ none → Kn' a = Kn a := by
  cases r with
  | d y =>
    cases e
    exact ⟨Kn, g, Same.refl _, h, fun _ _ => rfl⟩
  | n xs =>
    cases e
    obtain ⟨p, vs, e1, h0, h1, h2, h3⟩ := h
    have sm : Same Kn (upd Kn p (.lst vs)) := fun a o q => by rw [upd_ne (ne_of_none q h1)]; exact q
    refine ⟨_, g.learn h0 h2 h1 rfl, sm, ⟨p, vs, e1, upd_same, Dts.mono sm _ _ h3⟩, fun a z => upd_ne fun q => z ?_⟩
    rw [q]; exact h0
  | b i => cases e

/-! ### views -/
def Sl.lst : Option Sl → Option D
  | some (.l xs) => some (.lst xs)
  | _ => none
def vw (δ : List Sl) : Rs → Option D
  | .d x => some x
  | .n xs => some (.lst xs)
  | .b i => Sl.lst δ[i]?
def vwA (δ : List Sl) : Ar → Option D
  | .d x => some x
  | .b i => Sl.lst δ[i]?
theorem Sl.lst_some {o : Option Sl} {x : D} (h : Sl.lst o = some x) : ∃ xs, o = some (.l xs) ∧ x = .lst xs := by
  cases o with
  | none => cases h
  | some t =>
    cases t with
    | u => cases h
    | d y => cases h
    | l xs =>
      cases h
      exact ⟨xs, rfl, rfl⟩
/-- the value as it may be read now: a list stands in the heap, its items are known -/
def Vw (K : PySem.W.Frag) (Kn H : Hp) : D → V → Prop
  | .lst xs, v => ∃ a vs, v = .ref a ∧ (∀ u, Kn a = some u → isM u = false) ∧ H a = some (.lst vs) ∧ Dts K Kn xs vs
  | x, v => Dt K Kn x v
theorem Vw.of {K : PySem.W.Frag} {Kn H : Hp} {n : Gh} (k : Kno Kn H n) {x : D} {v : V} (h : Dt K Kn x v) : Vw K Kn H x v := by
  cases x with
  | lst xs =>
    obtain ⟨a, vs, e, h1, h2⟩ := h
    exact ⟨a, vs, e, (fun u z => by rw [h1] at z; cases z; rfl), k.of h1 rfl, h2⟩
  | _ => exact h
theorem Rep.vw {K : PySem.W.Frag} {δ : List Sl} {σ : L2.St} {E0 H0 Kn H : Hp} {n : Gh} (s : StOk K δ σ E0 Kn H n) {r : Rs} {v : V} {x : D} (h : Rep K H0 Kn H σ r v) (e : DL.vw δ r = some x) : Vw K Kn H x v := by
  cases r with
  | d y =>
    cases e
    exact Vw.of s.kno h
  | n xs =>
    cases e
    obtain ⟨p, vs, e1, _, h1, h2, h3⟩ := h
    exact ⟨p, vs, e1, (fun u z => by rw [h1] at z; cases z), h2, h3⟩
  | b i =>
    obtain ⟨xs, q, rfl⟩ := Sl.lst_some e
    obtain ⟨p, vs, e1, h1, _, h2, h3⟩ := s.list q
    have h' : σ[i]? = some (some v) := h
    rw [e1] at h'
    cases h'
    exact ⟨p, vs, rfl, (fun u z => by rw [h1] at z; cases z), h2, h3⟩
theorem Gr.stays {Kn H Kn' H' : Hp} {n : Gh} (g : Gr Kn H Kn' H' n) {a : Addr} {o : HO} (ne : ∀ u, Kn a = some u → isM u = false) (h : H a = some o) : H' a = some o := by
  rcases g.hh a _ h with ⟨u, z, m⟩ | z
  · rw [ne u z] at m; cases m
  · exact z
theorem Gr.mark {Kn H Kn' H' : Hp} {n : Gh} (g : Gr Kn H Kn' H' n) {a : Addr} {o : HO} (ne : ∀ u, Kn a = some u → isM u = false) (h : H a = some o) : ∀ u, Kn' a = some u → isM u = false := fun v z => by
  cases q : Kn a with
  | some u =>
    have e := g.kk a u q
    rw [z] at e
    cases e
    exact ne _ q
  | none =>
    rcases g.nw a _ z q with x | ⟨xs, x⟩
    · rw [h] at x; cases x
    · subst x; rfl
theorem Vw.mono {K : PySem.W.Frag} {Kn H Kn' H' : Hp} {n : Gh} (g : Gr Kn H Kn' H' n) {x : D} {v : V} (h : Vw K Kn H x v) : Vw K Kn' H' x v := by
  cases x with
  | lst xs =>
    obtain ⟨a, vs, e, h0, h1, h2⟩ := h
    exact ⟨a, vs, e, g.mark h0 h1, g.stays h0 h1, Dts.mono g.kk xs vs h2⟩
  | _ => exact Dt.mono g.kk _ _ h
theorem RepA.vw {K : PySem.W.Frag} {δ : List Sl} {σ : L2.St} {E0 Kn H : Hp} {n : Gh} (s : StOk K δ σ E0 Kn H n) : ∀ {as : List Ar} {vs : List V} {xs : List D}, RepA K Kn σ as vs → as.mapM (vwA δ) = some xs → Paired (fun x v => Vw K Kn H x v) xs vs
  | [], vs, xs, h, e => by
    obtain rfl : vs = [] := h
    cases e
    exact .nil
  | .d x :: r, vs, xs, h, e => by
    obtain ⟨v, ws, rfl, h1, h2⟩ := h
    rw [List.mapM_cons] at e
    cases q : r.mapM (vwA δ) with
    | none => rw [q] at e; cases e
    | some ys =>
      rw [q] at e
      cases e
      exact .cons (Vw.of s.kno h1) (RepA.vw s h2 q)
  | .b i :: r, vs, xs, h, e => by
    obtain ⟨v, ws, rfl, h1, h2⟩ := h
    rw [List.mapM_cons] at e
    cases q0 : Sl.lst δ[i]? with
    | none =>
      have e0 : vwA δ (.b i) = none := q0
      rw [e0] at e; cases e
    | some y =>
      have e0 : vwA δ (.b i) = some y := q0
      rw [e0] at e
      cases q : r.mapM (vwA δ) with
      | none => rw [q] at e; cases e
      | some ys =>
        rw [q] at e
        cases e
        obtain ⟨xs, q1, rfl⟩ := Sl.lst_some q0
        obtain ⟨p, us, e1, h3, _, h4, h5⟩ := s.list q1
        rw [e1] at h1
        cases h1
        exact .cons ⟨p, us, rfl, (fun u z => by rw [h3] at z; cases z), h4, h5⟩ (RepA.vw s h2 q)

/-! ### names, constants -/
section
variable {X : Cx} {E : WX} {e a b c : Expr} {pos : Pos}
def Sl.val (i : Nat) : Option Sl → Option Rs
  | some (.d x) => some (.d x)
  | some (.l _) => some (.b i)
  | _ => none
def wVar (i : Nat) : WD := fun δ n P _ => ∃ r, Sl.val i δ[i]? = some r ∧ P n r
def wC (x : D) : WD := fun _ n P _ => P n (.d x)
theorem pd_var (i : Nat) {x : PySem.Str} (hN : X.N[i]? = some x := by rfl) (hv : Vis X.env.scope x := by first | exact Or.inl rfl | exact Or.inr (Or.inl rfl) | exact Or.inr (Or.inr rfl)) (hd : (x == ("__debug__" : PySem.Str)) = false := by decide)
    (hcd : (x == ("__classdict__" : PySem.Str)) = false := by decide) : PD X E (.Name x pos) (wVar i) := by
  refine ⟨_, pe_var hN hv hd hcd, fun δ n P PX w σ E0 Kn H s Q k _ => ?_⟩
  obtain ⟨r, e, p⟩ := w
  cases q : δ[i]? with
  | none => rw [q] at e; cases e
  | some t =>
    rw [q] at e
    cases t with
    | u => cases e
    | d x =>
      cases e
      obtain ⟨v, e1, h1⟩ := s.datum q
      exact ⟨v, e1, k n _ v Kn H (Gr.refl s.kno) p h1⟩
    | l xs =>
      cases e
      obtain ⟨p', vs, e1, _⟩ := s.list q
      exact ⟨_, e1, k n _ _ Kn H (Gr.refl s.kno) p e1⟩
theorem pd_c {e : Expr} {v : V} {x : D} (h : PE X e (tC v)) (hx : ∀ Kn, Dt X.K Kn x v) : PD X E e (wC x) :=
  ⟨_, h, fun δ n P PX w σ E0 Kn H s Q k _ => k n _ v Kn H (Gr.refl s.kno) w (hx Kn)⟩
theorem pd_int {i : Int} {j} : PD X E (.Constant (.int i) j pos) (wC (.int i)) := pd_c pe_int fun _ => rfl
theorem pd_bl {b j} : PD X E (.Constant (.bool b) j pos) (wC (.bl b)) := pd_c pe_bl fun _ => rfl
theorem pd_non {j} : PD X E (.Constant .none j pos) (wC .non) := pd_c pe_non fun _ => rfl
/-- the codes of a written text -/
def q (x : String) : List Nat := x.toList.map Char.toNat
theorem pd_str {x : PySem.Str} {j} (cs : List Nat) (hx : x = S cs := by decide +kernel) (ok : okS cs = true := by decide +kernel) : PD X E (.Constant (.str x) j pos) (wC (.str cs)) := pd_c pe_str fun _ => ⟨by rw [hx], ok⟩
theorem pd_glob {x : PySem.Str} {v : V} {u : Value} {y : D} (hg : Gl X x) (hm : X.mg x = some u) (r : RelV v u) (hy : ∀ Kn, Dt X.K Kn y v) (hd : (x == ("__debug__" : PySem.Str)) = false := by decide) : PD X E (.Name x pos) (wC y) :=
  pd_c (pe_glob hg hm r hd) hy
theorem pd_bltn {x : PySem.Str} {n : String} (hg : Gl X x) (hm : X.mg x = none) (hv : bootBuiltins x = some (.type n)) (hn : x ≠ "__name__" := by decide) (hd : (x == ("__debug__" : PySem.Str)) = false := by decide) : PD X E (.Name x pos) (wC (.ty n)) :=
  pd_c (v := .ty n) (pe_bltn hg hm hv rfl hn hd) fun _ => rfl

/-! ### operators on two values -/
/-- what an operator on two views gives -/
abbrev G2 := D → D → (Rs → Prop) → Prop
def BinD (K : PySem.W.Frag) (r : R2) (g : G2) : Prop := ∀ (x y : D) (u v : V) (σ : L2.St) (Kn H : Hp) (n : Gh) (P : Rs → Prop) (Q : VK), Kno Kn H n → Vw K Kn H x u → Vw K Kn H y v → g x y P →
  (∀ z w Kn' H', Gr Kn H Kn' H' n → P z → Rep K H Kn' H' σ z w → Q w H') → r u v H Q
def wOp (g : G2) (wa wb : WD) : WD := fun δ n P PX => wa δ n (fun n1 r1 => wb δ n1 (fun n2 r2 => ∃ x y, vw δ r1 = some x ∧ vw δ r2 = some y ∧ g x y (P n2)) PX) PX
theorem ev_op2 {K : PySem.W.Frag} {r : R2} {g : G2} {ta tb : TE} {wa wb : WD} (hr : BinD K r g) (ha : ∀ δ n P PX, wa δ n P PX → EvD K E δ n ta P PX) (hb : ∀ δ n P PX, wb δ n P PX → EvD K E δ n tb P PX)
    (δ : List Sl) (n : Gh) (P : Gh → Rs → Prop) (PX : PXT) (w : wOp g wa wb δ n P PX) : EvD K E δ n (tOp r ta tb) P PX := by
  intro σ E0 Kn H s Q k x
  refine ha δ n _ PX w σ E0 Kn H s _ (fun n1 r1 v1 K1 H1 g1 w1 p1 => ?_) x
  have s1 := s.gr g1
  refine hb δ n1 _ PX w1 σ E0 K1 H1 s1 _ (fun n2 r2 v2 K2 H2 g2 w2 p2 => ?_) (x.gr g1)
  obtain ⟨y, z, e1, e2, q⟩ := w2
  have v1' := (Rep.vw s1 p1 e1).mono g2
  have v2' := Rep.vw (s1.gr g2) p2 e2
  exact hr y z v1 v2 σ K2 H2 n2 _ _ g2.kh v1' v2' q fun z w K3 H3 g3 p3 r3 => k n2 z w K3 H3 ((g1.trans g2).trans g3) p3 (r3.back fun a h => g1.ha a (g2.ha a h))
theorem pd_op {op : Operator} {r : R2} {g : G2} {wa wb : WD} (ho : OpR X (binaryOp op) r) (hr : BinD X.K r g) (ha : PD X E a wa) (hb : PD X E b wb) : PD X E (.BinOp a op b pos) (wOp g wa wb) := by
  obtain ⟨ta, h1, h2⟩ := ha
  obtain ⟨tb, h3, h4⟩ := hb
  exact ⟨_, pe_op ho h1 h3, ev_op2 hr h2 h4⟩
theorem pd_cmp {op : CmpOp} {r : R2} {g : G2} {wa wb : WD} (ho : OpR X (compareOp op) r) (hr : BinD X.K r g) (ha : PD X E a wa) (hb : PD X E b wb) (hm : behindInMarks op b = false := by first | exact nomark _ | rfl) : PD X E (.Compare a [op] [b] pos) (wOp g wa wb) := by
  obtain ⟨ta, h1, h2⟩ := ha
  obtain ⟨tb, h3, h4⟩ := hb
  exact ⟨_, pe_cmpR ho h1 h3 hm, ev_op2 hr h2 h4⟩
/-- the value as a test -/
def wTest (w : WD) : WT := fun δ n P PX => w δ n (fun n1 r => ∃ b, r = .d (.bl b) ∧ P n1 b) PX
theorem ev_test {K : PySem.W.Frag} {te : TE} {w : WD} (h : ∀ δ n P PX, w δ n P PX → EvD K E δ n te P PX) (δ : List Sl) (n : Gh) (P : Gh → Bool → Prop) (PX : PXT) (q : wTest w δ n P PX) : EvB K E δ n (tTest te) P PX := by
  intro σ E0 Kn H s Q k x
  refine h δ n _ PX q σ E0 Kn H s _ (fun n1 r v K1 H1 g1 w1 p1 => ?_) x
  obtain ⟨b, rfl, p⟩ := w1
  obtain rfl : v = .bl b := p1
  exact ⟨b, rfl, k n1 b K1 H1 g1 p⟩
theorem td_cmp {op : CmpOp} {r : R2} {g : G2} {wa wb : WD} (ho : OpR X (compareOp op) r) (hr : BinD X.K r g) (ha : PD X E a wa) (hb : PD X E b wb) (hm : behindInMarks op b = false := by first | exact nomark _ | rfl) : TD X E (.Compare a [op] [b] pos) (wTest (wOp g wa wb)) := by
  obtain ⟨ta, h1, h2⟩ := ha
  obtain ⟨tb, h3, h4⟩ := hb
  exact ⟨_, pt_cmpR ho h1 h3 hm, ev_test (ev_op2 hr h2 h4)⟩
theorem td_val {w : WD} (h : PD X E e w) (he : ∀ whole, isTrue e X.env whole = (do let v ← whole; standAt e.pos; holding [v] (truthy v)) := by intro _; rfl) : TD X E e (wTest w) := by
  obtain ⟨te, h1, h2⟩ := h
  exact ⟨_, pt_val h1 he, ev_test h2⟩
/-- a < b < c -/
def wChain (g g' : G2) (wa wb wc : WD) : WD := fun δ n P PX => wa δ n (fun n1 r1 => wb δ n1 (fun n2 r2 => ∃ x y, vw δ r1 = some x ∧ vw δ r2 = some y ∧ g x y fun z => ∃ k, z = .d (.bl k) ∧
  ((k = true → wc δ n2 (fun n3 r3 => ∃ u, vw δ r3 = some u ∧ g' y u (P n3)) PX) ∧ (k = false → P n2 (.d (.bl false))))) PX) PX
theorem ev_chain {K : PySem.W.Frag} {r r' : R2} {g g' : G2} {ta tb tc : TE} {wa wb wc : WD} (hr : BinD K r g) (hr' : BinD K r' g') (ha : ∀ δ n P PX, wa δ n P PX → EvD K E δ n ta P PX) (hb : ∀ δ n P PX, wb δ n P PX → EvD K E δ n tb P PX) (hc : ∀ δ n P PX, wc δ n P PX → EvD K E δ n tc P PX)
    (δ : List Sl) (n : Gh) (P : Gh → Rs → Prop) (PX : PXT) (w : wChain g g' wa wb wc δ n P PX) : EvD K E δ n (tChain r r' ta tb tc) P PX := by
  intro σ E0 Kn H s Q k x
  refine ha δ n _ PX w σ E0 Kn H s _ (fun n1 r1 v1 K1 H1 g1 w1 p1 => ?_) x
  have s1 := s.gr g1
  refine hb δ n1 _ PX w1 σ E0 K1 H1 s1 _ (fun n2 r2 v2 K2 H2 g2 w2 p2 => ?_) (x.gr g1)
  obtain ⟨y, z, e1, e2, q⟩ := w2
  have s2 := s1.gr g2
  have v1' := (Rep.vw s1 p1 e1).mono g2
  have v2' := Rep.vw s2 p2 e2
  refine hr y z v1 v2 σ K2 H2 n2 _ _ g2.kh v1' v2' q fun z' w K3 H3 g3 p3 r3 => ?_
  obtain ⟨kk, rfl, p4, p5⟩ := p3
  obtain rfl : w = .bl kk := r3
  refine ⟨kk, rfl, ?_⟩
  have g123 := (g1.trans g2).trans g3
  cases kk with
  | true =>
    rw [if_pos rfl]
    refine hc δ n2 _ PX (p4 rfl) σ E0 K3 H3 (s2.gr g3) _ (fun n3 r3 v3 K4 H4 g4 w4 p6 => ?_) (x.gr g123)
    obtain ⟨u, e3, q3⟩ := w4
    have v3' := Rep.vw ((s2.gr g3).gr g4) p6 e3
    exact hr' z u v2 v3 σ K4 H4 n3 _ _ g4.kh ((v2'.mono g3).mono g4) v3' q3 fun z5 w5 K5 H5 g5 p7 r7 => k n3 z5 w5 K5 H5 ((g123.trans g4).trans g5) p7 (r7.back fun a h => g123.ha a (g4.ha a h))
  | false =>
    rw [if_neg Bool.false_ne_true]
    exact k n2 _ _ K3 H3 g123 (p5 rfl) rfl
theorem pd_chain {op op' : CmpOp} {r r' : R2} {g g' : G2} {wa wb wc : WD} (ho : OpR X (compareOp op) r) (hr : BinD X.K r g) (ho' : OpR X (compareOp op') r') (hr' : BinD X.K r' g') (ha : PD X E a wa) (hb : PD X E b wb) (hc : PD X E c wc) (hm : lastMarks [op, op'] [b, c] = false := by with_unfolding_all rfl) :
    PD X E (.Compare a [op, op'] [b, c] pos) (wChain g g' wa wb wc) := by
  obtain ⟨ta, h1, h2⟩ := ha
  obtain ⟨tb, h3, h4⟩ := hb
  obtain ⟨tc, h5, h6⟩ := hc
  exact ⟨_, pe_chain ho ho' h1 h3 h5 hm, ev_chain hr hr' h2 h4 h6⟩
theorem td_chain {op op' : CmpOp} {r r' : R2} {g g' : G2} {wa wb wc : WD} (ho : OpR X (compareOp op) r) (hr : BinD X.K r g) (ho' : OpR X (compareOp op') r') (hr' : BinD X.K r' g') (ha : PD X E a wa) (hb : PD X E b wb) (hc : PD X E c wc) (hm : lastMarks [op, op'] [b, c] = false := by with_unfolding_all rfl) :
    TD X E (.Compare a [op, op'] [b, c] pos) (wTest (wChain g g' wa wb wc)) := by
  obtain ⟨ta, h1, h2⟩ := ha
  obtain ⟨tb, h3, h4⟩ := hb
  obtain ⟨tc, h5, h6⟩ := hc
  exact ⟨_, pt_chain ho ho' h1 h3 h5 hm, ev_test (ev_chain hr hr' h2 h4 h6)⟩
end
end DL
/-! The data layer, part c: operators on data, displays, and, or, not, if-expressions. -/
namespace DL
open PySem PySem.Spec PyProof.Rows L2

/-! ### as PyData -/
mutual
def D.py : D → PyData
  | .non => .none
  | .bl b => .bool b
  | .int i => .int i
  | .str x => .str (S x)
  | .tup xs => .tuple (D.pys xs)
  | .lst xs => .list (D.pys xs)
  | .frl ns => .list (ns.map .int)
  | .src => .none
  | .pw _ _ _ => .none
  | .obj _ _ => .none
  | .dct _ => .none
  | .fn _ => .none
  | .ty _ => .none
def D.pys : List D → List PyData
  | [] => []
  | d :: ds => d.py :: D.pys ds
end
mutual
/-- data that == can be asked of by the library's rule -/
def D.plain : D → Bool
  | .non => true
  | .bl _ => true
  | .int _ => true
  | .str _ => true
  | .frl _ => true
  | .tup xs => D.plains xs
  | .lst xs => D.plains xs
  | .src => false
  | .pw _ _ _ => false
  | .obj _ _ => false
  | .dct _ => false
  | .fn _ => false
  | .ty _ => false
def D.plains : List D → Bool
  | [] => true
  | d :: ds => d.plain && D.plains ds
end
theorem sqT_kno {K : PySem.W.Frag} {Kn H : Hp} {n : Gh} {a : Addr} {vs : List V} (k : Kno Kn H n) (h : SqT K Kn a vs) : SqT K H a vs := by
  rcases h with (h | ⟨o, h⟩) | h
  · exact .inl (.inl (k.of h rfl))
  · exact .inl (.inr ⟨o, k.of h rfl⟩)
  · exact .inr h
theorem sqL_kno {K : PySem.W.Frag} {Kn H : Hp} {n : Gh} {a : Addr} {vs : List V} (k : Kno Kn H n) (h : SqL K Kn a vs) : SqL K H a vs := by
  rcases h with (h | ⟨o, h⟩) | h
  · exact .inl (.inl (k.of h rfl))
  · exact .inl (.inr ⟨o, k.of h rfl⟩)
  · exact .inr h
theorem dpAll_ints {K : PySem.W.Frag} {H : Hp} : ∀ ns : List Int, DpAll K H (ns.map V.int) (ns.map .int)
  | [] => .nil
  | n :: ns => .cons (.int n) (dpAll_ints ns)
mutual
theorem Dt.dp {K : PySem.W.Frag} {Kn H : Hp} {n : Gh} (k : Kno Kn H n) : ∀ (x : D) (v : V), x.plain = true → Dt K Kn x v → Dp K H v x.py
  | .non, _, _, h => by
    obtain rfl := h
    rw [D.py]; exact .non
  | .bl b, _, _, h => by
    obtain rfl := h
    rw [D.py]; exact .bl b
  | .int i, _, _, h => by
    obtain rfl := h
    rw [D.py]; exact .int i
  | .str x, _, _, h => by
    obtain ⟨rfl, _⟩ := h
    rw [D.py]; exact .str _
  | .tup xs, _, p, h => by
    obtain ⟨a, vs, rfl, h1, h2⟩ := h
    rw [D.plain] at p
    rw [D.py]; exact .tup (sqT_kno k h1) (Dts.dp k xs vs p h2)
  | .lst xs, _, p, h => by
    obtain ⟨a, vs, rfl, h1, h2⟩ := h
    rw [D.plain] at p
    rw [D.py]; exact .lst (SqL.of (k.of h1 rfl)) (Dts.dp k xs vs p h2)
  | .frl ns, _, p, h => by
    obtain ⟨a, rfl, h1⟩ := h
    rw [D.py]; exact .lst (sqL_kno k h1) (dpAll_ints ns)
  | .src, _, p, h => by rw [D.plain] at p; cases p
  | .pw _ _ _, _, p, h => by rw [D.plain] at p; cases p
  | .obj _ _, _, p, h => by rw [D.plain] at p; cases p
  | .dct _, _, p, h => by rw [D.plain] at p; cases p
  | .fn _, _, p, h => by rw [D.plain] at p; cases p
  | .ty _, _, p, h => by rw [D.plain] at p; cases p
theorem Dts.dp {K : PySem.W.Frag} {Kn H : Hp} {n : Gh} (k : Kno Kn H n) : ∀ (xs : List D) (vs : List V), D.plains xs = true → Dts K Kn xs vs → DpAll K H vs (D.pys xs)
  | [], vs, _, h => by
    obtain rfl : vs = [] := h
    rw [D.pys]; exact .nil
  | d :: ds, vs, p, h => by
    obtain ⟨v, ws, rfl, h1, h2⟩ := h
    rw [D.plains, Bool.and_eq_true] at p
    rw [D.pys]; exact .cons (Dt.dp k d v p.1 h1) (Dts.dp k ds ws p.2 h2)
end
theorem Vw.dp {K : PySem.W.Frag} {Kn H : Hp} {n : Gh} (k : Kno Kn H n) {x : D} {v : V} (p : x.plain = true) (h : Vw K Kn H x v) : Dp K H v x.py := by
  cases x with
  | lst xs =>
    obtain ⟨a, vs, rfl, _, h1, h2⟩ := h
    rw [D.plain] at p
    rw [D.py]; exact .lst (SqL.of h1) (Dts.dp k xs vs p h2)
  | _ => exact Dt.dp k _ v p h
theorem strOk_S {x : List Nat} (h : okS x = true) : PyData.strOk (S x) = true := by
  unfold PyData.strOk
  show x.toArray.all (· < 0x110000) = true
  rw [List.all_toArray]
  exact h
theorem can_ints : ∀ ns : List Int, PyData.canLayAll0 (ns.map .int) = true
  | [] => by rw [List.map_nil, PyData.canLayAll0]
  | n :: ns => by rw [List.map_cons, PyData.canLayAll0, PyData.canLay0, Bool.true_and]; exact can_ints ns
mutual
theorem Dt.can {K : PySem.W.Frag} {Kn : Hp} : ∀ (x : D) (v : V), Dt K Kn x v → x.py.canLay0 = true
  | .non, _, _ => by rw [D.py, PyData.canLay0]
  | .bl b, _, _ => by rw [D.py, PyData.canLay0]
  | .int i, _, _ => by rw [D.py, PyData.canLay0]
  | .str x, _, h => by rw [D.py, PyData.canLay0]; exact strOk_S h.2
  | .tup xs, _, h => by
    obtain ⟨a, vs, rfl, h1, h2⟩ := h
    rw [D.py, PyData.canLay0]; exact Dts.can xs vs h2
  | .lst xs, _, h => by
    obtain ⟨a, vs, rfl, h1, h2⟩ := h
    rw [D.py, PyData.canLay0]; exact Dts.can xs vs h2
  | .frl ns, _, h => by rw [D.py, PyData.canLay0]; exact can_ints ns
  | .src, _, _ => by rw [D.py, PyData.canLay0]
  | .pw _ _ _, _, _ => by rw [D.py, PyData.canLay0]
  | .obj _ _, _, _ => by rw [D.py, PyData.canLay0]
  | .dct _, _, _ => by rw [D.py, PyData.canLay0]
  | .fn _, _, _ => by rw [D.py, PyData.canLay0]
  | .ty _, _, _ => by rw [D.py, PyData.canLay0]
theorem Dts.can {K : PySem.W.Frag} {Kn : Hp} : ∀ (xs : List D) (vs : List V), Dts K Kn xs vs → PyData.canLayAll0 (D.pys xs) = true
  | [], vs, _ => by rw [D.pys, PyData.canLayAll0]
  | d :: ds, vs, h => by
    obtain ⟨v, ws, rfl, h1, h2⟩ := h
    rw [D.pys, PyData.canLayAll0, Dt.can d v h1, Dts.can ds ws h2]; rfl
end
theorem Vw.can {K : PySem.W.Frag} {Kn H : Hp} {x : D} {v : V} (h : Vw K Kn H x v) : x.py.canLay0 = true := by
  cases x with
  | lst xs =>
    obtain ⟨a, vs, rfl, _, h1, h2⟩ := h
    rw [D.py, PyData.canLay0]; exact Dts.can xs vs h2
  | _ => exact Dt.can (K := K) (Kn := Kn) _ v h
theorem shaped_of {d : PyData} (h : d.canLay0 = true) (e : d.depth ≤ 64) : SeqAt.shaped d = true := by
  unfold SeqAt.shaped
  rw [h, decide_eq_true e]; rfl

section
variable {X : Cx} {E : WX} {e a b c : Expr} {pos : Pos} {K : PySem.W.Frag}
/-! ### operators -/
def gI (C : Int → Int → Prop) (f : Int → Int → Int) : G2 := fun x y P => ∃ i j, x = .int i ∧ y = .int j ∧ C i j ∧ P (.d (.int (f i j)))
def gB (f : Int → Int → Bool) : G2 := fun x y P => ∃ i j, x = .int i ∧ y = .int j ∧ P (.d (.bl (f i j)))
theorem bin_I {C : Int → Int → Prop} {f : Int → Int → Int} : BinD K (rI C fun i j => .int (f i j)) (gI C f) := by
  intro x y u v σ Kn H n P Q k h1 h2 g q
  obtain ⟨i, j, rfl, rfl, hc, p⟩ := g
  obtain rfl : u = .int i := h1
  obtain rfl : v = .int j := h2
  exact ⟨i, j, rfl, rfl, hc, q _ _ Kn H (Gr.refl k) p rfl⟩
theorem bin_I0 {f : Int → Int → Int} : BinD K (rI0 fun i j => .int (f i j)) (gI (fun _ _ => True) f) := by
  intro x y u v σ Kn H n P Q k h1 h2 g q
  obtain ⟨i, j, rfl, rfl, _, p⟩ := g
  obtain rfl : u = .int i := h1
  obtain rfl : v = .int j := h2
  exact ⟨i, j, rfl, rfl, q _ _ Kn H (Gr.refl k) p rfl⟩
theorem bin_B {f : Int → Int → Bool} : BinD K (rI0 fun i j => .bl (f i j)) (gB f) := by
  intro x y u v σ Kn H n P Q k h1 h2 g q
  obtain ⟨i, j, rfl, rfl, p⟩ := g
  obtain rfl : u = .int i := h1
  obtain rfl : v = .int j := h2
  exact ⟨i, j, rfl, rfl, q _ _ Kn H (Gr.refl k) p rfl⟩
theorem S_app (x y : List Nat) : S x ++ S y = S (x ++ y) := by
  show (⟨x.toArray ++ y.toArray⟩ : PySem.Str) = ⟨(x ++ y).toArray⟩
  rw [List.append_toArray]
theorem S_len (x : List Nat) : (S x).length = x.length := rfl
theorem okS_app {x y : List Nat} (h1 : okS x = true) (h2 : okS y = true) : okS (x ++ y) = true := by
  unfold okS at *
  rw [List.all_append, h1, h2]; rfl
/-- + -/
def gAdd : G2 := fun x y P => match x, y with
  | .int i, .int j => P (.d (.int (i + j)))
  | .str a, .str b => a.length + b.length ≤ sizeLine ∧ P (.d (.str (a ++ b)))
  | .lst a, .lst b => a.length + b.length ≤ sizeLine ∧ P (.n (a ++ b))
  | .tup a, .tup b => a.length + b.length ≤ sizeLine ∧ P (.d (.tup (a ++ b)))
  | _, _ => False
def rPlus (K : PySem.W.Frag) : R2 := fun x y H Q => (rI0 fun i j => V.int (i + j)) x y H Q ∨ (fun x y H Q => ((∃ i j, x = V.str i ∧ y = .str j ∧ i.length + j.length ≤ sizeLine ∧ Q (.str (i ++ j)) H) : Prop)) x y H Q ∨ rCat x y H Q ∨ rCatA K x y H Q
theorem op_plus : OpR X (binaryOp .Add) (rPlus X.K) := OpR.or op_add (OpR.or op_add_str (OpR.or op_cat op_catA))
theorem sqT_new {K : PySem.W.Frag} {H : Hp} {p : Addr} {vs : List V} : SqT K (upd H p (.tup vs)) p vs := .inl (.inl upd_same)
theorem bin_plus : BinD K (rPlus K) gAdd := by
  intro x y u v σ Kn H n P Q k h1 h2 g q
  cases x <;> cases y <;> first | exact False.elim g | skip
  · obtain rfl : u = .int _ := h1
    obtain rfl : v = .int _ := h2
    exact .inl ⟨_, _, rfl, rfl, q _ _ Kn H (Gr.refl k) g rfl⟩
  · obtain ⟨rfl, o1⟩ := h1
    obtain ⟨rfl, o2⟩ := h2
    exact .inr (.inl ⟨_, _, rfl, rfl, g.1, q _ _ Kn H (Gr.refl k) g.2 ⟨by rw [S_app], okS_app o1 o2⟩⟩)
  · obtain ⟨a, vs, rfl, h3, h4⟩ := h1
    obtain ⟨b, ws, rfl, h5, h6⟩ := h2
    have e1 := h4.length
    have e2 := h6.length
    obtain ⟨hz, g⟩ := g
    refine .inr (.inr (.inr ⟨a, b, vs, ws, rfl, rfl, sqT_kno k h3, sqT_kno k h5, by omega, fun z => ?_, fun z1 z2 => ?_, fun z1 z2 p hp => ?_⟩))
    · subst z
      have z : _ = [] := List.length_eq_zero_iff.mp (show _ = 0 from e1)
      subst z
      exact q _ _ Kn H (Gr.refl k) g ⟨b, ws, rfl, h5, h6⟩
    · subst z2
      have z : _ = [] := List.length_eq_zero_iff.mp (show _ = 0 from e2)
      subst z
      rw [List.append_nil] at g
      exact q _ _ Kn H (Gr.refl k) g ⟨a, vs, rfl, h3, h4⟩
    · have gr := Gr.new (o := .tup (vs ++ ws)) k hp rfl
      exact q _ _ _ _ gr g ⟨p, vs ++ ws, rfl, sqT_new, (Dts.mono gr.kk _ _ h4).append (Dts.mono gr.kk _ _ h6)⟩
  · obtain ⟨a, vs, rfl, n1, h3, h4⟩ := h1
    obtain ⟨b, ws, rfl, n2, h5, h6⟩ := h2
    have e1 := h4.length
    have e2 := h6.length
    obtain ⟨hz, g⟩ := g
    refine .inr (.inr (.inl ⟨a, b, vs, ws, rfl, rfl, h3, h5, by omega, fun p hp => ?_⟩))
    have sm : Same H (upd H p (.lst (vs ++ ws))) := fun c o z => by rw [upd_ne (ne_of_none z hp)]; exact z
    exact q _ _ _ _ (Gr.ext k sm) g ⟨p, vs ++ ws, rfl, hp, k.free hp, upd_same, h4.append h6⟩
/-- * -/
def gMul : G2 := fun x y P => match x, y with
  | .int i, .int j => CMul i j ∧ P (.d (.int (i * j)))
  | .lst a, .int j => (-(2 ^ 63) ≤ j ∧ j < 2 ^ 63 ∧ a.length * j.toNat ≤ sizeLine) ∧ P (.n (List.replicate j.toNat a).flatten)
  | _, _ => False
def rTimes : R2 := fun x y H Q => (rI CMul fun i j => V.int (i * j)) x y H Q ∨ rRep x y H Q
theorem op_times : OpR X (binaryOp .Mult) rTimes := OpR.or op_mul op_rep
theorem dts_rep {Kn : Hp} {a : List D} {vs : List V} (h : Dts K Kn a vs) : ∀ m : Nat, Dts K Kn (List.replicate m a).flatten (List.replicate m vs).flatten
  | 0 => rfl
  | m + 1 => by
    rw [List.replicate_succ, List.replicate_succ, List.flatten_cons, List.flatten_cons]
    exact h.append (dts_rep h m)
theorem bin_times : BinD K rTimes gMul := by
  intro x y u v σ Kn H n P Q k h1 h2 g q
  cases x <;> cases y <;> first | exact False.elim g | skip
  · obtain rfl : u = .int _ := h1
    obtain rfl : v = .int _ := h2
    exact .inl ⟨_, _, rfl, rfl, g.1, q _ _ Kn H (Gr.refl k) g.2 rfl⟩
  · obtain ⟨a, vs, rfl, n1, h3, h4⟩ := h1
    obtain rfl : v = .int _ := h2
    obtain ⟨⟨g1, g2, g3⟩, g⟩ := g
    have e1 := h4.length
    refine .inr ⟨a, _, vs, rfl, rfl, h3, g1, g2, by rw [← e1]; exact g3, fun p hp => ?_⟩
    exact q _ _ _ _ (Gr.ext k (fun c o z => by rw [upd_ne (ne_of_none z hp)]; exact z)) g ⟨p, _, rfl, hp, k.free hp, upd_same, dts_rep h4 _⟩
/-- == of plain data -/
def D.eqv (x y : D) : Bool := PyData.eqv x.py y.py
def gEq : G2 := fun x y P => x.plain = true ∧ y.plain = true ∧ x.py.depth ≤ 64 ∧ y.py.depth ≤ 64 ∧ P (.d (.bl (x.eqv y)))
def gNe : G2 := fun x y P => x.plain = true ∧ y.plain = true ∧ x.py.depth ≤ 64 ∧ y.py.depth ≤ 64 ∧ P (.d (.bl (!x.eqv y)))
theorem bin_eq : BinD K (rEqD K) gEq := by
  intro x y u v σ Kn H n P Q k h1 h2 g q
  obtain ⟨p1, p2, d1, d2, p⟩ := g
  exact ⟨_, _, h1.dp k p1, h2.dp k p2, shaped_of h1.can d1, shaped_of h2.can d2, q _ _ Kn H (Gr.refl k) p rfl⟩
theorem bin_ne : BinD K (rNeD K) gNe := by
  intro x y u v σ Kn H n P Q k h1 h2 g q
  obtain ⟨p1, p2, d1, d2, p⟩ := g
  exact ⟨_, _, h1.dp k p1, h2.dp k p2, shaped_of h1.can d1, shaped_of h2.can d2, q _ _ Kn H (Gr.refl k) p rfl⟩
def flatD : D → Bool
  | .non => true
  | .bl _ => true
  | .int _ => true
  | .str _ => true
  | _ => false
theorem Dt.flat {K : PySem.W.Frag} {Kn : Hp} {x : D} {v : V} (f : flatD x = true) (h : Dt K Kn x v) : flatV v = true := by
  cases x <;> first | cases f | skip
  · obtain rfl := h; rfl
  · obtain rfl := h; rfl
  · obtain rfl := h; rfl
  · obtain ⟨rfl, _⟩ := h; rfl
theorem Dts.flat {K : PySem.W.Frag} {Kn : Hp} : ∀ {xs : List D} {vs : List V}, xs.all flatD = true → Dts K Kn xs vs → vs.all flatV = true
  | [], vs, _, h => by
    obtain rfl : vs = [] := h
    rfl
  | x :: xs, vs, f, h => by
    obtain ⟨v, ws, rfl, h1, h2⟩ := h
    rw [List.all_cons, Bool.and_eq_true] at f
    rw [List.all_cons, Dt.flat f.1 h1, Dts.flat f.2 h2]; rfl
theorem flat_eq {K : PySem.W.Frag} {Kn Kn' : Hp} {x y : D} {u v : V} (fx : flatD x = true) (fy : flatD y = true) (hx : Dt K Kn x u) (hy : Dt K Kn' y v) : eqV u v = x.eqv y := by
  unfold D.eqv
  cases x <;> first | cases fx | skip
  all_goals (cases y <;> first | cases fy | skip)
  all_goals (simp only [Dt] at hx hy; first | (obtain ⟨rfl, _⟩ := hx) | (obtain rfl := hx))
  all_goals (first | (obtain ⟨rfl, _⟩ := hy) | (obtain rfl := hy))
  all_goals (simp only [D.py, PyData.eqv, eqV])
theorem flat_any {K : PySem.W.Frag} {Kn Kn' : Hp} {x : D} {u : V} (fx : flatD x = true) (hx : Dt K Kn' x u) : ∀ {xs : List D} {vs : List V}, xs.all flatD = true → Dts K Kn xs vs → inV u vs = xs.any fun z => z.eqv x
  | [], vs, _, h => by
    obtain rfl : vs = [] := h
    rfl
  | y :: xs, vs, f, h => by
    obtain ⟨v, ws, rfl, h1, h2⟩ := h
    rw [List.all_cons, Bool.and_eq_true] at f
    unfold inV
    rw [List.any_cons, List.any_cons, flat_eq f.1 fx h1 hx]
    have ih := flat_any fx hx f.2 h2
    unfold inV at ih
    rw [ih]
theorem pys_any (x : D) : ∀ ys : List D, ((D.pys ys).any fun z => PyData.eqv z x.py) = ys.any fun z => z.eqv x
  | [] => rfl
  | y :: ys => by rw [D.pys, List.any_cons, List.any_cons, pys_any x ys]; rfl
/-- x in y: one sign in a text, plain data in a list, flat ones in a tuple -/
def gIn (neg : Bool) : G2 := fun x y P => match y with
  | .str z => ∃ c, x = .str [c] ∧ P (.d (.bl (if neg then !decide (c ∈ z) else decide (c ∈ z))))
  | .lst ys => x.plain = true ∧ D.plains ys = true ∧ x.py.depth ≤ 64 ∧ PyData.depthAll (D.pys ys) < 64 ∧ P (.d (.bl (if neg then !(ys.any fun z => z.eqv x) else ys.any fun z => z.eqv x)))
  | .tup ys => flatD x = true ∧ ys.all flatD = true ∧ P (.d (.bl (if neg then !(ys.any fun z => z.eqv x) else ys.any fun z => z.eqv x)))
  | _ => False
def rInAll (K : PySem.W.Frag) : R2 := fun x y H Q => (fun x y H Q => ((∃ (c : Nat) (z : PySem.Str), x = V.str ⟨#[c]⟩ ∧ y = .str z ∧ Q (.bl (decide (c ∈ z.cps.toList))) H) : Prop)) x y H Q ∨ rInD K x y H Q ∨ rIn K false x y H Q
def rNotInAll (K : PySem.W.Frag) : R2 := fun x y H Q => (fun x y H Q => ((∃ (c : Nat) (z : PySem.Str), x = V.str ⟨#[c]⟩ ∧ y = .str z ∧ Q (.bl (!decide (c ∈ z.cps.toList))) H) : Prop)) x y H Q ∨ rNotInD K x y H Q ∨ rIn K true x y H Q
theorem op_inAll {k : Nat} (hr : Room k X.A) : OpR X (compareOp .In) (rInAll X.K) := OpR.or op_in_sign (OpR.or (op_inD (by have := hr.un; omega)) op_in_seq)
theorem op_notInAll {k : Nat} (hr : Room k X.A) : OpR X (compareOp .NotIn) (rNotInAll X.K) := OpR.or op_notIn_sign (OpR.or (op_notInD (by have := hr.un; omega)) op_notIn_seq)
theorem op_eqAll {k : Nat} (hr : Room k X.A) : OpR X (compareOp .Eq) (rEqD X.K) := op_eqD (by have := hr.un; omega)
theorem op_neAll {k : Nat} (hr : Room k X.A) : OpR X (compareOp .NotEq) (rNeD X.K) := op_neD (by have := hr.un; omega)
theorem bin_in : BinD K (rInAll K) (gIn false) := by
  intro x y u v σ Kn H n P Q k h1 h2 g q
  cases y <;> first | exact False.elim g | skip
  · obtain ⟨rfl, o2⟩ := h2
    obtain ⟨c, rfl, p⟩ := g
    obtain ⟨rfl, o1⟩ := h1
    exact .inl ⟨c, _, rfl, rfl, q _ _ Kn H (Gr.refl k) p rfl⟩
  · obtain ⟨f1, f2, p⟩ := g
    obtain ⟨b, ws, rfl, h5, h6⟩ := h2
    have h1' : Dt K Kn x u := by
      cases x <;> first | exact h1 | cases f1
    refine .inr (.inr ⟨b, ws, rfl, .inr (sqT_kno k h5), Dt.flat f1 h1', Dts.flat f2 h6, ?_⟩)
    rw [if_neg Bool.false_ne_true, flat_any f1 h1' f2 h6]
    exact q _ _ Kn H (Gr.refl k) p rfl
  · obtain ⟨f1, f2, d1, d2, p⟩ := g
    refine .inr (.inl ⟨x.py, _, h1.dp k f1, h2.dp k (by rw [D.plain]; exact f2), shaped_of h1.can d1, shaped_of (by have := h2.can; rw [D.py] at this; exact this) (by rw [PyData.depth]; omega), ?_⟩)
    rw [pys_any]
    exact q _ _ Kn H (Gr.refl k) p rfl
theorem bin_notIn : BinD K (rNotInAll K) (gIn true) := by
  intro x y u v σ Kn H n P Q k h1 h2 g q
  cases y <;> first | exact False.elim g | skip
  · obtain ⟨rfl, o2⟩ := h2
    obtain ⟨c, rfl, p⟩ := g
    obtain ⟨rfl, o1⟩ := h1
    exact .inl ⟨c, _, rfl, rfl, q _ _ Kn H (Gr.refl k) p rfl⟩
  · obtain ⟨f1, f2, p⟩ := g
    obtain ⟨b, ws, rfl, h5, h6⟩ := h2
    have h1' : Dt K Kn x u := by
      cases x <;> first | exact h1 | cases f1
    refine .inr (.inr ⟨b, ws, rfl, .inr (sqT_kno k h5), Dt.flat f1 h1', Dts.flat f2 h6, ?_⟩)
    rw [if_pos rfl, flat_any f1 h1' f2 h6]
    exact q _ _ Kn H (Gr.refl k) p rfl
  · obtain ⟨f1, f2, d1, d2, p⟩ := g
    refine .inr (.inl ⟨x.py, _, h1.dp k f1, h2.dp k (by rw [D.plain]; exact f2), shaped_of h1.can d1, shaped_of (by have := h2.can; rw [D.py] at this; exact this) (by rw [PyData.depth]; omega), ?_⟩)
    rw [pys_any]
    exact q _ _ Kn H (Gr.refl k) p rfl
/-- x is None -/
def D.isN : D → Bool
  | .non => true
  | _ => false
def gIsN (neg : Bool) : G2 := fun x y P => y = .non ∧ P (.d (.bl (if neg then !x.isN else x.isN)))
theorem isN_dec {Kn H : Hp} {x : D} {u : V} (h : Vw K Kn H x u) : decide (u = V.non) = x.isN := by
  cases x <;> simp only [Vw, Dt] at h <;> first
    | (obtain rfl := h; rfl)
    | (obtain ⟨rfl, _⟩ := h; rfl)
    | (obtain ⟨_, _, rfl, _⟩ := h; rfl)
    | (obtain ⟨_, rfl, _⟩ := h; rfl)
    | (obtain ⟨_, _, _, rfl, _⟩ := h; rfl)
theorem bin_isN : BinD K (fun x y H Q => y = .non ∧ Q (.bl (decide (x = .non))) H) (gIsN false) := by
  intro x y u v σ Kn H n P Q k h1 h2 g q
  obtain ⟨rfl, p⟩ := g
  obtain rfl : v = .non := h2
  refine ⟨rfl, ?_⟩
  rw [isN_dec h1]
  exact q _ _ Kn H (Gr.refl k) p rfl
theorem bin_notN : BinD K (fun x y H Q => y = .non ∧ Q (.bl (!decide (x = .non))) H) (gIsN true) := by
  intro x y u v σ Kn H n P Q k h1 h2 g q
  obtain ⟨rfl, p⟩ := g
  obtain rfl : v = .non := h2
  refine ⟨rfl, ?_⟩
  rw [isN_dec h1]
  exact q _ _ Kn H (Gr.refl k) p rfl

/-! ### and, or, not, if -/
def wNot (w : WT) : WT := fun δ n P PX => w δ n (fun n1 b => P n1 (!b)) PX
def wAndT (wa wb : WT) : WT := fun δ n P PX => wa δ n (fun n1 b => (b = true → wb δ n1 P PX) ∧ (b = false → P n1 false)) PX
def wOrT (wa wb : WT) : WT := fun δ n P PX => wa δ n (fun n1 b => (b = true → P n1 true) ∧ (b = false → wb δ n1 P PX)) PX
theorem td_not {w : WT} (h : TD X E e w) : TD X E (.UnaryOp .Not e pos) (wNot w) := by
  obtain ⟨t, h1, h2⟩ := h
  refine ⟨_, pt_not h1, fun δ n P PX w σ E0 Kn H s Q k x => ?_⟩
  exact h2 δ n _ PX w σ E0 Kn H s _ (fun n1 r K1 H1 g1 p => k n1 _ K1 H1 g1 p) x
/-- a chain of and, of or, as a test -/
def TW (X : Cx) (E : WX) (e : Expr) (w : WT) : Prop := ∃ tt, PW X e tt ∧ ∀ δ n P PX, w δ n P PX → EvB X.K E δ n tt P PX
theorem TW.td {w : WT} (h : TW X E e w) : TD X E e w := let ⟨t, h1, h2⟩ := h; ⟨t, h1.pt, h2⟩
theorem tw_and1 {w : WT} (h : TD X E a w) : TW X E (.BoolOp .And [a] pos) w := let ⟨t, h1, h2⟩ := h; ⟨t, pw_and1 h1, h2⟩
theorem tw_or1 {w : WT} (h : TD X E a w) : TW X E (.BoolOp .Or [a] pos) w := let ⟨t, h1, h2⟩ := h; ⟨t, pw_or1 h1, h2⟩
theorem tw_and {wa wb : WT} {rest : List Expr} (ha : TD X E a wa) (hb : TW X E (.BoolOp .And (b :: rest) pos) wb) : TW X E (.BoolOp .And (a :: b :: rest) pos) (wAndT wa wb) := by
  obtain ⟨t, h1, h2⟩ := ha
  obtain ⟨t', h3, h4⟩ := hb
  refine ⟨_, pw_and h1 h3, fun δ n P PX w σ E0 Kn H s Q k x => ?_⟩
  refine h2 δ n _ PX w σ E0 Kn H s _ (fun n1 r K1 H1 g1 p => ?_) x
  cases r with
  | true =>
    rw [if_pos rfl]
    exact h4 δ n1 P PX (p.1 rfl) σ E0 K1 H1 (s.gr g1) Q (fun n2 r K2 H2 g2 p2 => k n2 r K2 H2 (g1.trans g2) p2) (x.gr g1)
  | false =>
    rw [if_neg Bool.false_ne_true]
    exact k n1 _ K1 H1 g1 (p.2 rfl)
theorem tw_or {wa wb : WT} {rest : List Expr} (ha : TD X E a wa) (hb : TW X E (.BoolOp .Or (b :: rest) pos) wb) : TW X E (.BoolOp .Or (a :: b :: rest) pos) (wOrT wa wb) := by
  obtain ⟨t, h1, h2⟩ := ha
  obtain ⟨t', h3, h4⟩ := hb
  refine ⟨_, pw_or h1 h3, fun δ n P PX w σ E0 Kn H s Q k x => ?_⟩
  refine h2 δ n _ PX w σ E0 Kn H s _ (fun n1 r K1 H1 g1 p => ?_) x
  cases r with
  | true =>
    rw [if_pos rfl]
    exact k n1 _ K1 H1 g1 (p.1 rfl)
  | false =>
    rw [if_neg Bool.false_ne_true]
    exact h4 δ n1 P PX (p.2 rfl) σ E0 K1 H1 (s.gr g1) Q (fun n2 r K2 H2 g2 p2 => k n2 r K2 H2 (g1.trans g2) p2) (x.gr g1)
/-- the same as values that are truths -/
def wAndV (wa wb : WD) : WD := fun δ n P PX => wa δ n (fun n1 r => ∃ c, r = .d (.bl c) ∧ (c = true → wb δ n1 P PX) ∧ (c = false → P n1 (.d (.bl false)))) PX
def wOrV (wa wb : WD) : WD := fun δ n P PX => wa δ n (fun n1 r => ∃ c, r = .d (.bl c) ∧ (c = true → P n1 (.d (.bl true))) ∧ (c = false → wb δ n1 P PX)) PX
def wNotV (wa : WD) : WD := fun δ n P PX => wa δ n (fun n1 r => ∃ c, r = .d (.bl c) ∧ P n1 (.d (.bl (!c)))) PX
theorem Rep.rebase {K : PySem.W.Frag} {Kn0 H0 Kn1 H1 Kn H : Hp} {σ : L2.St} {n1 : Gh} (g : Gr Kn0 H0 Kn1 H1 n1) {r : Rs} {v : V} (h : Rep K H1 Kn H σ r v) : Rep K H0 Kn H σ r v := h.back g.ha
theorem pd_one {op} {w : WD} (h : PD X E a w) : PD X E (.BoolOp op [a] pos) w := let ⟨t, h1, h2⟩ := h; ⟨t, pe_one h1, h2⟩
theorem pd_and {wa wb : WD} {rest : List Expr} (ha : PD X E a wa) (hb : PD X E (.BoolOp .And (b :: rest) pos) wb) : PD X E (.BoolOp .And (a :: b :: rest) pos) (wAndV wa wb) := by
  obtain ⟨t, h1, h2⟩ := ha
  obtain ⟨t', h3, h4⟩ := hb
  refine ⟨_, pe_and h1 h3, fun δ n P PX w σ E0 Kn H s Q k x => ?_⟩
  refine h2 δ n _ PX w σ E0 Kn H s _ (fun n1 r v K1 H1 g1 p rp => ?_) x
  obtain ⟨c, rfl, p1, p2⟩ := p
  obtain rfl : v = .bl c := rp
  refine ⟨c, rfl, ?_⟩
  cases c with
  | true =>
    rw [if_pos rfl]
    exact h4 δ n1 P PX (p1 rfl) σ E0 K1 H1 (s.gr g1) Q (fun n2 r v K2 H2 g2 p2 rp => k n2 r v K2 H2 (g1.trans g2) p2 (rp.rebase g1)) (x.gr g1)
  | false =>
    rw [if_neg Bool.false_ne_true]
    exact k n1 _ _ K1 H1 g1 (p2 rfl) rfl
theorem pd_or {wa wb : WD} {rest : List Expr} (ha : PD X E a wa) (hb : PD X E (.BoolOp .Or (b :: rest) pos) wb) : PD X E (.BoolOp .Or (a :: b :: rest) pos) (wOrV wa wb) := by
  obtain ⟨t, h1, h2⟩ := ha
  obtain ⟨t', h3, h4⟩ := hb
  refine ⟨_, pe_or h1 h3, fun δ n P PX w σ E0 Kn H s Q k x => ?_⟩
  refine h2 δ n _ PX w σ E0 Kn H s _ (fun n1 r v K1 H1 g1 p rp => ?_) x
  obtain ⟨c, rfl, p1, p2⟩ := p
  obtain rfl : v = .bl c := rp
  refine ⟨c, rfl, ?_⟩
  cases c with
  | true =>
    rw [if_pos rfl]
    exact k n1 _ _ K1 H1 g1 (p1 rfl) rfl
  | false =>
    rw [if_neg Bool.false_ne_true]
    exact h4 δ n1 P PX (p2 rfl) σ E0 K1 H1 (s.gr g1) Q (fun n2 r v K2 H2 g2 p2 rp => k n2 r v K2 H2 (g1.trans g2) p2 (rp.rebase g1)) (x.gr g1)
theorem pd_not {wa : WD} (ha : PD X E a wa) : PD X E (.UnaryOp .Not a pos) (wNotV wa) := by
  obtain ⟨t, h1, h2⟩ := ha
  refine ⟨_, pe_not h1, fun δ n P PX w σ E0 Kn H s Q k x => ?_⟩
  refine h2 δ n _ PX w σ E0 Kn H s _ (fun n1 r v K1 H1 g1 p rp => ?_) x
  obtain ⟨c, rfl, p1⟩ := p
  obtain rfl : v = .bl c := rp
  exact ⟨c, rfl, k n1 _ _ K1 H1 g1 p1 rfl⟩
def wIfE (wc : WT) (wa wb : WD) : WD := fun δ n P PX => wc δ n (fun n1 b => (b = true → wa δ n1 P PX) ∧ (b = false → wb δ n1 P PX)) PX
theorem pd_ifE {wc : WT} {wa wb : WD} (hc : TD X E c wc) (ha : PD X E a wa) (hb : PD X E b wb) : PD X E (.IfExp c a b pos) (wIfE wc wa wb) := by
  obtain ⟨t0, h0, h0'⟩ := hc
  obtain ⟨t, h1, h2⟩ := ha
  obtain ⟨t', h3, h4⟩ := hb
  refine ⟨_, pe_ifExp h0 h1 h3, fun δ n P PX w σ E0 Kn H s Q k x => ?_⟩
  refine h0' δ n _ PX w σ E0 Kn H s _ (fun n1 r K1 H1 g1 p => ?_) x
  cases r with
  | true =>
    rw [if_pos rfl]
    exact h2 δ n1 P PX (p.1 rfl) σ E0 K1 H1 (s.gr g1) Q (fun n2 r v K2 H2 g2 p2 rp => k n2 r v K2 H2 (g1.trans g2) p2 (rp.rebase g1)) (x.gr g1)
  | false =>
    rw [if_neg Bool.false_ne_true]
    exact h4 δ n1 P PX (p.2 rfl) σ E0 K1 H1 (s.gr g1) Q (fun n2 r v K2 H2 g2 p2 rp => k n2 r v K2 H2 (g1.trans g2) p2 (rp.rebase g1)) (x.gr g1)

/-! ### arguments, displays -/
def wNil : WA := fun _ n P _ => P n []
def wCons (w : WD) (wr : WA) : WA := fun δ n P PX => w δ n (fun n1 r => wr δ n1 (fun n2 as => P n2 (r.arg :: as)) PX) PX
theorem ad_nil : AD X E [] wNil := ⟨_, pa_nil, fun δ n P PX w σ E0 Kn H s Q k _ => k n [] [] Kn H (Gr.refl s.kno) w rfl⟩
theorem ad_cons {es : List Expr} {w : WD} {wr : WA} (h : PD X E e w) (hr : AD X E es wr) (hs : starEach (e :: es) X.env = (false, eval e X.env) :: starEach es X.env := by rfl) : AD X E (e :: es) (wCons w wr) := by
  obtain ⟨t, h1, h2⟩ := h
  obtain ⟨t', h3, h4⟩ := hr
  refine ⟨_, pa_cons h1 h3 hs, fun δ n P PX w σ E0 Kn H s Q k x => ?_⟩
  refine h2 δ n _ PX w σ E0 Kn H s _ (fun n1 r v K1 H1 g1 p rp => ?_) x
  cases r with
  | b i =>
    refine h4 δ n1 _ PX p σ E0 K1 H1 (s.gr g1) _ (fun n2 as vs K2 H2 g2 p2 ra => ?_) (x.gr g1)
    exact k n2 _ (v :: vs) K2 H2 (g1.trans g2) p2 ⟨v, vs, rfl, rp, ra⟩
  | d y =>
    refine h4 δ n1 _ PX p σ E0 K1 H1 (s.gr g1) _ (fun n2 as vs K2 H2 g2 p2 ra => ?_) (x.gr g1)
    exact k n2 _ (v :: vs) K2 H2 (g1.trans g2) p2 ⟨v, vs, rfl, Dt.mono g2.kk _ _ rp, ra⟩
  | n ys =>
    obtain ⟨K1', g1', sm, hd, _⟩ := Rep.dat (x := .lst ys) g1 rp rfl
    refine h4 δ n1 _ PX p σ E0 K1' H1 (s.gr g1') _ (fun n2 as vs K2 H2 g2 p2 ra => ?_) (x.gr g1')
    exact k n2 _ (v :: vs) K2 H2 (g1'.trans g2) p2 ⟨v, vs, rfl, Dt.mono g2.kk _ _ hd, ra⟩
def Ar.dat : List Ar → Option (List D)
  | [] => some []
  | .d x :: r => (Ar.dat r).map (x :: ·)
  | .b _ :: _ => none
theorem RepA.dat {Kn : Hp} {σ : L2.St} : ∀ {as : List Ar} {vs : List V} {xs : List D}, RepA K Kn σ as vs → Ar.dat as = some xs → Dts K Kn xs vs
  | [], vs, xs, h, e => by cases e; exact h
  | .d x :: r, vs, xs, h, e => by
    obtain ⟨v, ws, rfl, h1, h2⟩ := h
    unfold Ar.dat at e
    cases q : Ar.dat r with
    | none => rw [q] at e; cases e
    | some ys =>
      rw [q] at e; cases e
      exact ⟨v, ws, rfl, h1, RepA.dat h2 q⟩
  | .b i :: r, vs, xs, h, e => by cases e
def wTup (wa : WA) : WD := fun δ n P PX => wa δ n (fun n1 as => ∃ xs, Ar.dat as = some xs ∧ xs.length ≤ sizeLine ∧ P n1 (.d (.tup xs))) PX
def wLst (wa : WA) : WD := fun δ n P PX => wa δ n (fun n1 as => ∃ xs, Ar.dat as = some xs ∧ xs.length ≤ sizeLine ∧ P n1 (.n xs)) PX
theorem pd_tup {es : List Expr} {x1} {wa : WA} (h : AD X E es wa) : PD X E (.Tuple es x1 pos) (wTup wa) := by
  obtain ⟨t, h1, h2⟩ := h
  refine ⟨_, pe_tup h1, fun δ n P PX w σ E0 Kn H s Q k x => ?_⟩
  refine h2 δ n _ PX w σ E0 Kn H s _ (fun n1 as vs K1 H1 g1 p ra => ?_) x
  obtain ⟨xs, e1, hz, p⟩ := p
  have hd := ra.dat e1
  have e2 := hd.length
  refine ⟨by omega, fun a ha => ?_⟩
  have gr := Gr.new (o := .tup vs) g1.kh ha rfl
  exact k n1 _ _ _ _ (g1.trans gr) p ⟨a, vs, rfl, sqT_new, Dts.mono gr.kk _ _ hd⟩
theorem pd_lst {es : List Expr} {wa : WA} (h : AD X E es wa) : PD X E (.List es pos) (wLst wa) := by
  obtain ⟨t, h1, h2⟩ := h
  refine ⟨_, pe_lst h1, fun δ n P PX w σ E0 Kn H s Q k x => ?_⟩
  refine h2 δ n _ PX w σ E0 Kn H s _ (fun n1 as vs K1 H1 g1 p ra => ?_) x
  obtain ⟨xs, e1, hz, p⟩ := p
  have hd := ra.dat e1
  have e2 := hd.length
  refine ⟨by omega, fun a ha => ?_⟩
  have gr := Gr.ext (H' := upd H1 a (.lst vs)) g1.kh (fun c o z => by rw [upd_ne (ne_of_none z ha)]; exact z)
  exact k n1 _ _ _ _ (g1.trans gr) p ⟨a, vs, rfl, g1.ha a ha, g1.kh.free ha, upd_same, hd⟩
end
end DL
/-! The data layer, part d: calls of built-ins, subscripts, methods of texts. -/
namespace DL
open PySem PySem.Spec PyProof.Rows L2
section
variable {X : Cx} {E : WX} {e a b c : Expr} {es : List Expr} {pos p apos : Pos} {K : PySem.W.Frag}

/-! ### built-ins by name -/
def vwAs (δ : List Sl) : List Ar → Option (List D)
  | [] => some []
  | a :: r => match vwA δ a, vwAs δ r with
    | some x, some xs => some (x :: xs)
    | _, _ => none
theorem RepA.vws {δ : List Sl} {σ : L2.St} {E0 Kn H : Hp} {n : Gh} (s : StOk K δ σ E0 Kn H n) : ∀ {as : List Ar} {vs : List V} {xs : List D}, RepA K Kn σ as vs → vwAs δ as = some xs → Paired (fun x v => Vw K Kn H x v) xs vs
  | [], vs, xs, h, e => by
    obtain rfl : vs = [] := h
    cases e
    exact .nil
  | a :: r, vs, xs, h, e => by
    unfold vwAs at e
    cases q0 : vwA δ a with
    | none => rw [q0] at e; cases e
    | some y =>
      cases q : vwAs δ r with
      | none => rw [q0, q] at e; cases e
      | some ys =>
        rw [q0, q] at e
        cases e
        cases a with
        | d x =>
          cases q0
          obtain ⟨v, ws, rfl, h1, h2⟩ := h
          exact .cons (Vw.of s.kno h1) (RepA.vws s h2 q)
        | b i =>
          obtain ⟨v, ws, rfl, h1, h2⟩ := h
          obtain ⟨xs, q1, rfl⟩ := Sl.lst_some q0
          obtain ⟨p, us, e1, h3, _, h4, h5⟩ := s.list q1
          rw [e1] at h1
          cases h1
          exact .cons ⟨p, us, rfl, (fun u z => by rw [h3] at z; cases z), h4, h5⟩ (RepA.vws s h2 q)
abbrev GN := List D → (Rs → Prop) → Prop
def CallD (K : PySem.W.Frag) (r : List V → Hp → VK → Prop) (g : GN) : Prop := ∀ (xs : List D) (vs : List V) (σ : L2.St) (Kn H : Hp) (n : Gh) (P : Rs → Prop) (Q : VK), Kno Kn H n → Paired (fun x v => Vw K Kn H x v) xs vs → g xs P →
  (∀ z w Kn' H', Gr Kn H Kn' H' n → P z → Rep K H Kn' H' σ z w → Q w H') → r vs H Q
def wCall (g : GN) (wa : WA) : WD := fun δ n P PX => wa δ n (fun n1 as => ∃ xs, vwAs δ as = some xs ∧ g xs (P n1)) PX
theorem ev_call {r : List V → Hp → VK → Prop} {g : GN} {ta : TA} {wa : WA} (hr : CallD K r g) (ha : ∀ δ n P PX, wa δ n P PX → EvAs K E δ n ta P PX)
    (δ : List Sl) (n : Gh) (P : Gh → Rs → Prop) (PX : PXT) (w : wCall g wa δ n P PX) : EvD K E δ n (tCB r ta) P PX := by
  intro σ E0 Kn H s Q k x
  refine ha δ n _ PX w σ E0 Kn H s _ (fun n1 as vs K1 H1 g1 w1 p1 => ?_) x
  obtain ⟨xs, e1, q⟩ := w1
  exact hr xs vs σ K1 H1 n1 _ _ g1.kh (RepA.vws (s.gr g1) p1 e1) q fun z w K3 H3 g3 p3 r3 => k n1 z w K3 H3 (g1.trans g3) p3 (r3.rebase g1)
theorem pd_callB {x : PySem.Str} {id : String} {r : List V → Hp → VK → Prop} {g : GN} {wa : WA} (hc : CallR X (.builtin id) r) (hr : CallD X.K r g) (hg : Gl X x) (hm : X.mg x = none) (hv : bootBuiltins x = some (.builtin id)) (ha : AD X E (e :: es) wa)
    (hn : x ≠ "__name__" := by decide) (hdb : (x == ("__debug__" : PySem.Str)) = false := by decide) (he : starEach (e :: es) X.env = (false, eval e X.env) :: starEach es X.env := by rfl) (hpl : (backTo pos (starEach es X.env)).any (·.1) = false := by rfl) :
    PD X E (.Call (.Name x p) (e :: es) [] pos) (wCall g wa) := by
  obtain ⟨t, h1, h2⟩ := ha
  exact ⟨_, pe_callB hc hg hm hv h1 hn hdb he hpl, ev_call hr h2⟩
theorem pd_callTy {x : PySem.Str} {T : String} {r : List V → Hp → VK → Prop} {g : GN} {wa : WA} (hc : CallR X (.type T) r) (hr : CallD X.K r g) (hg : Gl X x) (hm : X.mg x = none) (hv : bootBuiltins x = some (.type T)) (ha : AD X E (e :: es) wa)
    (hn : x ≠ "__name__" := by decide) (hdb : (x == ("__debug__" : PySem.Str)) = false := by decide) (he : starEach (e :: es) X.env = (false, eval e X.env) :: starEach es X.env := by rfl) (hpl : (backTo pos (starEach es X.env)).any (·.1) = false := by rfl) :
    PD X E (.Call (.Name x p) (e :: es) [] pos) (wCall g wa) := by
  obtain ⟨t, h1, h2⟩ := ha
  exact ⟨_, pe_callTy hc hg hm hv h1 hn hdb he hpl, ev_call hr h2⟩
theorem paired1 {α β : Type} {F : α → β → Prop} {x : α} {vs : List β} (h : Paired F [x] vs) : ∃ v, vs = [v] ∧ F x v := by
  cases h with
  | cons h1 h2 => cases h2; exact ⟨_, rfl, h1⟩
theorem paired2 {α β : Type} {F : α → β → Prop} {x y : α} {vs : List β} (h : Paired F [x, y] vs) : ∃ v w, vs = [v, w] ∧ F x v ∧ F y w := by
  cases h with
  | cons h1 h2 =>
    cases h2 with
    | cons h3 h4 => cases h4; exact ⟨_, _, rfl, h1, h3⟩
theorem Gr.lst {Kn H : Hp} {n : Gh} {p : Addr} {vs : List V} (k : Kno Kn H n) (hp : H p = none) : Gr Kn H Kn (upd H p (.lst vs)) n := Gr.ext k (fun c o z => by rw [upd_ne (ne_of_none z hp)]; exact z)
theorem rep_new {Kn H : Hp} {n : Gh} {σ : L2.St} {p : Addr} {xs : List D} {vs : List V} (k : Kno Kn H n) (hp : H p = none) (hd : Dts K Kn xs vs) : Rep K H Kn (upd H p (.lst vs)) σ (.n xs) (.ref p) := ⟨p, vs, rfl, hp, k.free hp, upd_same, hd⟩

/-- len -/
def gLen : GN := fun xs P => match xs with
  | [.str z] => z.length ≤ sizeLine ∧ P (.d (.int z.length))
  | [.lst ys] => P (.d (.int ys.length))
  | [.tup ys] => P (.d (.int ys.length))
  | [.frl ys] => P (.d (.int ys.length))
  | _ => False
theorem call_lenD : CallD K (fun xs H Q => ∃ x n, xs = [x] ∧ LenV K x H n ∧ Q (.int n) H) gLen := by
  intro xs vs σ Kn H n P Q k h g q
  unfold gLen at g
  split at g
  · obtain ⟨v, rfl, rfl, _⟩ := paired1 h
    exact ⟨_, _, rfl, ⟨g.1, rfl⟩, q _ _ Kn H (Gr.refl k) g.2 rfl⟩
  · obtain ⟨v, rfl, a, ws, rfl, _, h1, h2⟩ := paired1 h
    rw [h2.length] at g
    exact ⟨_, _, rfl, .inl ⟨ws, SqL.of h1, rfl⟩, q _ _ Kn H (Gr.refl k) g rfl⟩
  · obtain ⟨v, rfl, a, ws, rfl, h1, h2⟩ := paired1 h
    rw [h2.length] at g
    exact ⟨_, _, rfl, .inr ⟨ws, sqT_kno k h1, rfl⟩, q _ _ Kn H (Gr.refl k) g rfl⟩
  · obtain ⟨v, rfl, a, rfl, h1⟩ := paired1 h
    exact ⟨_, _, rfl, .inl ⟨_, sqL_kno k h1, rfl⟩, q _ _ Kn H (Gr.refl k) g (by rw [List.length_map]; rfl)⟩
  · exact g.elim
/-- isinstance, built-in classes -/
def D.tyS : D → Option String
  | .non => some "NoneType"
  | .bl _ => some "bool"
  | .int _ => some "int"
  | .str _ => some "str"
  | .tup _ => some "tuple"
  | .lst _ => some "list"
  | .dct _ => some "dict"
  | _ => none
theorem ty_tup {H : Hp} {a : Addr} {vs : List V} (h : SqT K H a vs) : TyX K H (.ref a) (.type "tuple") := by
  rcases h with (h | ⟨o, h⟩) | ⟨o, its, n, h1, h2, h3⟩
  · exact .base (.tup h)
  · exact .fTuple h
  · exact .kTuple h1 h2
theorem D.ty_ok {Kn H : Hp} {n : Gh} (k : Kno Kn H n) {x : D} {v : V} {t : String} (h : Vw K Kn H x v) (e : x.tyS = some t) : TyX K H v (.type t) := by
  cases x <;> first | cases e | skip
  · obtain rfl := h; exact .base .non
  · obtain rfl := h; exact .base (.bl _)
  · obtain rfl := h; exact .base (.int _)
  · obtain ⟨rfl, _⟩ := h; exact .base (.str _)
  · obtain ⟨a, vs, rfl, h1, h2⟩ := h; exact ty_tup (sqT_kno k h1)
  · obtain ⟨a, vs, rfl, _, h1, h2⟩ := h; exact .base (.lst h1)
  · obtain ⟨a, vs, rfl, h1, h2⟩ := h; exact .base (.dT (k.of h1 rfl))
def gIsi : GN := fun xs P => ∃ x T t b, xs = [x, .ty T] ∧ x.tyS = some t ∧ kitB t T = some b ∧ P (.d (.bl b))
theorem call_isiD : CallD K (rIsi K) gIsi := by
  intro xs vs σ Kn H n P Q k h g q
  obtain ⟨x, T, t, b, rfl, e1, e2, p⟩ := g
  obtain ⟨v, w, rfl, h1, rfl⟩ := paired2 h
  exact ⟨v, .ty T, .type t, .type T, b, rfl, .ty T, D.ty_ok k h1 e1, kit_ty e2, q _ _ Kn H (Gr.refl k) p rfl⟩
/-- all, any of truths -/
def D.isB : D → Bool
  | .bl _ => true
  | _ => false
def D.tru : D → Bool
  | .bl b => b
  | _ => false
theorem dts_bl {Kn : Hp} : ∀ {ds : List D} {vs : List V}, ds.all D.isB = true → Dts K Kn ds vs → vs = (ds.map D.tru).map V.bl
  | [], vs, _, h => h
  | d :: ds, vs, f, h => by
    obtain ⟨v, ws, rfl, h1, h2⟩ := h
    rw [List.all_cons, Bool.and_eq_true] at f
    rw [dts_bl f.2 h2]
    cases d <;> first | cases f.1 | skip
    obtain rfl := h1
    rfl
def gAll : GN := fun xs P => ∃ ds, xs = [.lst ds] ∧ ds.all D.isB = true ∧ P (.d (.bl (ds.all D.tru)))
def gAny : GN := fun xs P => ∃ ds, xs = [.lst ds] ∧ ds.all D.isB = true ∧ P (.d (.bl (ds.any D.tru)))
theorem call_allD : CallD K (rAll K) gAll := by
  intro xs vs σ Kn H n P Q k h g q
  obtain ⟨ds, rfl, f, p⟩ := g
  obtain ⟨v, rfl, a, ws, rfl, _, h1, h2⟩ := paired1 h
  have e := dts_bl f h2
  subst e
  refine ⟨a, ds.map D.tru, rfl, SqL.of h1, ?_⟩
  rw [List.all_map]
  exact q _ _ Kn H (Gr.refl k) p rfl
theorem call_anyD : CallD K (rAny K) gAny := by
  intro xs vs σ Kn H n P Q k h g q
  obtain ⟨ds, rfl, f, p⟩ := g
  obtain ⟨v, rfl, a, ws, rfl, _, h1, h2⟩ := paired1 h
  have e := dts_bl f h2
  subst e
  refine ⟨a, ds.map D.tru, rfl, SqL.of h1, ?_⟩
  rw [List.any_map]
  exact q _ _ Kn H (Gr.refl k) p rfl
/-- int of a truth, an int -/
def gInt : GN := fun xs P => match xs with
  | [.int i] => P (.d (.int i))
  | [.bl b] => P (.d (.int (if b then 1 else 0)))
  | _ => False
theorem call_intD : CallD K (fun xs H Q => (∃ i, xs = [V.int i] ∧ Q (.int i) H) ∨ ∃ k, xs = [V.bl k] ∧ Q (.int (if k then 1 else 0)) H) gInt := by
  intro xs vs σ Kn H n P Q k h g q
  unfold gInt at g
  split at g
  · obtain ⟨v, rfl, rfl⟩ := paired1 h
    exact .inl ⟨_, rfl, q _ _ Kn H (Gr.refl k) g rfl⟩
  · obtain ⟨v, rfl, rfl⟩ := paired1 h
    exact .inr ⟨_, rfl, q _ _ Kn H (Gr.refl k) g rfl⟩
  · exact g.elim
/-- list(..), tuple(..) of lists and tuples -/
def gList : GN := fun xs P => match xs with
  | [.lst ys] => P (.n ys)
  | [.tup ys] => P (.n ys)
  | _ => False
theorem call_listD : CallD K (fun xs H Q => ∃ p ys, xs = [V.ref p] ∧ (SqL K H p ys ∨ SqT K H p ys) ∧ ∀ l, H l = none → Q (.ref l) (upd H l (.lst ys))) gList := by
  intro xs vs σ Kn H n P Q k h g q
  unfold gList at g
  split at g
  · obtain ⟨v, rfl, a, ws, rfl, _, h1, h2⟩ := paired1 h
    exact ⟨a, ws, rfl, .inl (SqL.of h1), fun l hl => q _ _ _ _ (Gr.lst k hl) g (rep_new k hl h2)⟩
  · obtain ⟨v, rfl, a, ws, rfl, h1, h2⟩ := paired1 h
    exact ⟨a, ws, rfl, .inr (sqT_kno k h1), fun l hl => q _ _ _ _ (Gr.lst k hl) g (rep_new k hl h2)⟩
  · exact g.elim
def gTuple : GN := fun xs P => match xs with
  | [.lst ys] => P (.d (.tup ys))
  | [.tup ys] => P (.d (.tup ys))
  | _ => False
theorem call_tupleD : CallD K (fun xs H Q => ∃ p ys, xs = [V.ref p] ∧ ((SqL K H p ys ∧ ∀ l, H l = none → Q (.ref l) (upd H l (.tup ys))) ∨ (SqT K H p ys ∧ Q (.ref p) H))) gTuple := by
  intro xs vs σ Kn H n P Q k h g q
  unfold gTuple at g
  split at g
  · obtain ⟨v, rfl, a, ws, rfl, _, h1, h2⟩ := paired1 h
    refine ⟨a, ws, rfl, .inl ⟨SqL.of h1, fun l hl => ?_⟩⟩
    have gr := Gr.new (o := .tup ws) k hl rfl
    exact q _ _ _ _ gr g ⟨l, ws, rfl, sqT_new, Dts.mono gr.kk _ _ h2⟩
  · obtain ⟨v, rfl, a, ws, rfl, h1, h2⟩ := paired1 h
    exact ⟨a, ws, rfl, .inr ⟨sqT_kno k h1, q _ _ Kn H (Gr.refl k) g ⟨a, ws, rfl, h1, h2⟩⟩⟩
  · exact g.elim
/-- str of an int -/
theorem S_q (x : String) : S (q x) = PySem.Str.ofString x := (PySem.Str.ofString_eq_toList x).symm
theorem okS_q (x : String) : okS (q x) = true := by
  unfold okS q
  rw [List.all_map, List.all_eq_true]
  intro c _
  have h : c.toNat < 0x110000 := by
    rcases c.valid with h | ⟨_, h⟩
    · exact Nat.lt_trans h (by decide)
    · exact h
  simpa using h
def num (i : Int) : List Nat := q (toString i)
def gStr : GN := fun xs P => match xs with
  | [.int i] => i.natAbs.log2 < 1920 ∧ P (.d (.str (num i)))
  | _ => False
theorem call_strD : CallD K (fun xs H Q => ∃ i : Int, xs = [V.int i] ∧ i.natAbs.log2 < 1920 ∧ Q (.str (toString i)) H) gStr := by
  intro xs vs σ Kn H n P Q k h g q'
  unfold gStr at g
  split at g
  · obtain ⟨v, rfl, rfl⟩ := paired1 h
    exact ⟨_, rfl, g.1, q' _ _ Kn H (Gr.refl k) g.2 ⟨by rw [show S (num _) = _ from S_q _], okS_q _⟩⟩
  · exact g.elim
/-- min, max of two ints -/
def gMin : GN := fun xs P => ∃ i j, xs = [.int i, .int j] ∧ P (.d (.int (if j < i then j else i)))
def gMax : GN := fun xs P => ∃ i j, xs = [.int i, .int j] ∧ P (.d (.int (if j > i then j else i)))
theorem call_minD : CallD K (fun xs H Q => ∃ i j, xs = [V.int i, .int j] ∧ Q (.int (if j < i then j else i)) H) gMin := by
  intro xs vs σ Kn H n P Q k h g q
  obtain ⟨i, j, rfl, p⟩ := g
  obtain ⟨v, w, rfl, rfl, rfl⟩ := paired2 h
  exact ⟨i, j, rfl, q _ _ Kn H (Gr.refl k) p rfl⟩
theorem call_maxD : CallD K (fun xs H Q => ∃ i j, xs = [V.int i, .int j] ∧ Q (.int (if j > i then j else i)) H) gMax := by
  intro xs vs σ Kn H n P Q k h g q
  obtain ⟨i, j, rfl, p⟩ := g
  obtain ⟨v, w, rfl, rfl, rfl⟩ := paired2 h
  exact ⟨i, j, rfl, q _ _ Kn H (Gr.refl k) p rfl⟩

/-! ### subscripts -/
def gIx : G2 := fun x y P => match x, y with
  | .lst xs, .int i => ∃ z, atI xs i = some z ∧ P (.d z)
  | .tup xs, .int i => ∃ z, atI xs i = some z ∧ P (.d z)
  | .frl xs, .int i => ∃ z, atI xs i = some z ∧ P (.d (.int z))
  | .str x, .int i => x.length ≤ sizeLine ∧ ∃ z, atI x i = some z ∧ P (.d (.str [z]))
  | _, _ => False
theorem Dts.atI {Kn : Hp} {ds : List D} {vs : List V} {i : Int} {z : D} (h : Dts K Kn ds vs) (e : L2.atI ds i = some z) : ∃ v, L2.atI vs i = some v ∧ Dt K Kn z v := by
  unfold L2.atI at *
  rw [← h.length]
  cases q : ixN ds.length i with
  | none => rw [q] at e; cases e
  | some j =>
    rw [q] at e
    exact h.get e
theorem okS_mem {x : List Nat} {c : Nat} (h : okS x = true) (m : c ∈ x) : okS [c] = true := by
  unfold okS at *
  rw [List.all_eq_true] at h
  rw [List.all_cons, h c m]; rfl
theorem atI_mem {α : Type} {xs : List α} {i : Int} {z : α} (h : L2.atI xs i = some z) : z ∈ xs := by
  unfold L2.atI at h
  cases q : ixN xs.length i with
  | none => rw [q] at h; cases h
  | some j =>
    rw [q] at h
    exact List.mem_of_getElem? h
theorem bin_ix : BinD K (rIx K) gIx := by
  intro x y u v σ Kn H n P Q k h1 h2 g q
  cases x <;> cases y <;> first | exact False.elim g | skip
  · obtain ⟨rfl, o⟩ := h1
    obtain rfl : v = .int _ := h2
    obtain ⟨hz, c, e, p⟩ := g
    exact .inr (.inr ⟨_, _, c, rfl, rfl, hz, e, q _ _ Kn H (Gr.refl k) p ⟨rfl, okS_mem o (atI_mem e)⟩⟩)
  · obtain ⟨a, vs, rfl, h3, h4⟩ := h1
    obtain rfl : v = .int _ := h2
    obtain ⟨z, e, p⟩ := g
    obtain ⟨w, e2, hw⟩ := h4.atI e
    exact .inr (.inl ⟨a, vs, _, w, rfl, rfl, sqT_kno k h3, e2, q _ _ Kn H (Gr.refl k) p hw⟩)
  · obtain ⟨a, vs, rfl, _, h3, h4⟩ := h1
    obtain rfl : v = .int _ := h2
    obtain ⟨z, e, p⟩ := g
    obtain ⟨w, e2, hw⟩ := h4.atI e
    exact .inl ⟨a, vs, _, w, rfl, rfl, SqL.of h3, e2, q _ _ Kn H (Gr.refl k) p hw⟩
  · obtain ⟨a, rfl, h3⟩ := h1
    obtain rfl : v = .int _ := h2
    obtain ⟨z, e, p⟩ := g
    refine .inl ⟨a, _, _, .int z, rfl, rfl, sqL_kno k h3, ?_, q _ _ Kn H (Gr.refl k) p rfl⟩
    unfold L2.atI at *
    rw [List.length_map]
    cases q : ixN _ _ with
    | none => rw [q] at e; cases e
    | some j =>
      rw [q] at e
      have e : (_ : List Int)[j]? = some z := e
      show (List.map V.int _)[j]? = some (V.int z)
      rw [List.getElem?_map, e]; rfl
theorem pd_ix {wa wb : WD} (ha : PD X E a wa) (hb : PD X E b wb) (hs : PlainIx b := by exact fun _ _ => rfl) : PD X E (.Subscript a b pos) (wOp gIx wa wb) := by
  obtain ⟨ta, h1, h2⟩ := ha
  obtain ⟨tb, h3, h4⟩ := hb
  exact ⟨_, pe_ix ix_seq h1 h3 hs, ev_op2 bin_ix h2 h4⟩

/-! ### slices -/
abbrev WO := List Sl → Gh → (Gh → Option Int → Prop) → PXT → Prop
def OD (X : Cx) (E : WX) (e : Option Expr) (w : WO) : Prop := ∃ t, PO X e t ∧ ∀ δ n P PX, w δ n P PX →
  ∀ σ E0 Kn H, StOk X.K δ σ E0 Kn H n → ∀ Q : Option Int → Hp → Prop, (∀ n' r Kn' H', Gr Kn H Kn' H' n' → P n' r → Q r H') → ExOk X.K E δ PX σ Kn H → t σ H Q
def wPart0 : WO := fun _ n P _ => P n none
def wPart (w : WD) : WO := fun δ n P PX => w δ n (fun n1 r => ∃ i, r = .d (.int i) ∧ P n1 (some i)) PX
theorem od_none : OD X E none wPart0 := ⟨_, po_none, fun δ n P PX w σ E0 Kn H s Q k _ => k n none Kn H (Gr.refl s.kno) w⟩
theorem od_some {w : WD} (h : PD X E e w) : OD X E (some e) (wPart w) := by
  obtain ⟨t, h1, h2⟩ := h
  refine ⟨_, po_some h1, fun δ n P PX w σ E0 Kn H s Q k x => ?_⟩
  refine h2 δ n _ PX w σ E0 Kn H s _ (fun n1 r v K1 H1 g1 p rp => ?_) x
  obtain ⟨i, rfl, p⟩ := p
  obtain rfl : v = .int i := rp
  exact ⟨i, rfl, k n1 _ K1 H1 g1 p⟩
def cutL {α : Type} (xs : List α) (lo hi : Option Int) : List α := (xs.drop (HT.sIx xs.length 0 lo)).take (HT.sIx xs.length xs.length hi - HT.sIx xs.length 0 lo)
def gSl (x : D) (lo hi : Option Int) (P : Rs → Prop) : Prop := match x with
  | .lst xs => P (.n (cutL xs lo hi))
  | .frl xs => P (.n ((cutL xs lo hi).map .int))
  | .tup xs => P (.d (.tup (cutL xs lo hi)))
  | .str x => x.length ≤ sizeLine ∧ P (.d (.str (cutL x lo hi)))
  | _ => False
def rSlAll (K : PySem.W.Frag) : V → Option Int → Option Int → Hp → VK → Prop := fun x lo hi H Q => rSlL K x lo hi H Q ∨ rSlA K x lo hi H Q ∨ rSlS x lo hi H Q
theorem sl_all : SlR X (rSlAll X.K) := SlR.or sl_list (SlR.or sl_tupA sl_str)
theorem Dts.cut {Kn : Hp} {ds : List D} {vs : List V} (h : Dts K Kn ds vs) (lo hi : Option Int) : Dts K Kn (cutL ds lo hi) (cutV vs lo hi) := by
  unfold cutL cutV
  rw [← h.length]
  exact (h.drop _).take _
theorem okS_sub {x y : List Nat} (h : okS x = true) (m : ∀ c ∈ y, c ∈ x) : okS y = true := by
  unfold okS at *
  rw [List.all_eq_true] at *
  exact fun c hc => h c (m c hc)
theorem cutL_mem {α : Type} {xs : List α} {lo hi : Option Int} {c : α} (h : c ∈ cutL xs lo hi) : c ∈ xs := List.mem_of_mem_drop (List.mem_of_mem_take h)
theorem cut_sl {x : D} {v : V} {lo hi : Option Int} {σ : L2.St} {Kn H : Hp} {n : Gh} {P : Rs → Prop} {Q : VK} (k : Kno Kn H n) (h : Vw K Kn H x v) (g : gSl x lo hi P)
    (q : ∀ z w Kn' H', Gr Kn H Kn' H' n → P z → Rep K H Kn' H' σ z w → Q w H') : rSlAll K v lo hi H Q := by
  cases x <;> first | exact False.elim g | skip
  · obtain ⟨rfl, o⟩ := h
    exact .inr (.inr ⟨_, rfl, g.1, q _ _ Kn H (Gr.refl k) g.2 ⟨rfl, okS_sub o fun c hc => cutL_mem hc⟩⟩)
  · obtain ⟨a, vs, rfl, h3, h4⟩ := h
    have hl := h4.length
    have hc := h4.cut lo hi
    refine .inr (.inl ⟨a, vs, rfl, sqT_kno k h3, fun z => ?_, fun z p hp => ?_⟩)
    · rename_i ys
      have e : cutL ys lo hi = ys := by
        unfold cutL
        rw [hl, z.1, z.2, List.drop_zero, Nat.sub_zero, ← hl, List.take_length]
      have g : P (.d (.tup (cutL ys lo hi))) := g
      rw [e] at g
      exact q _ _ Kn H (Gr.refl k) g ⟨a, vs, rfl, h3, h4⟩
    · have gr := Gr.new (o := .tup (cutV vs lo hi)) k hp rfl
      exact q _ _ _ _ gr g ⟨p, _, rfl, sqT_new, Dts.mono gr.kk _ _ hc⟩
  · obtain ⟨a, vs, rfl, _, h3, h4⟩ := h
    exact .inl ⟨a, vs, rfl, SqL.of h3, fun p hp => q _ _ _ _ (Gr.lst k hp) g (rep_new k hp (h4.cut lo hi))⟩
  · obtain ⟨a, rfl, h3⟩ := h
    have e : ∀ ns : List Int, cutV (ns.map V.int) lo hi = (cutL ns lo hi).map V.int := fun ns => by
      unfold cutL cutV
      rw [List.length_map, ← List.map_drop, ← List.map_take]
    refine .inl ⟨a, _, rfl, sqL_kno k h3, fun p hp => ?_⟩
    rw [e]
    exact q _ _ _ _ (Gr.lst k hp) g (rep_new k hp (Dts.ints _))
def wSl (wa : WD) (wl wh : WO) : WD := fun δ n P PX => wa δ n (fun n1 r => wl δ n1 (fun n2 lo => wh δ n2 (fun n3 hi => ∃ x, vw δ r = some x ∧ gSl x lo hi (P n3)) PX) PX) PX
theorem pd_slice {lo hi : Option Expr} {p2 : Pos} {wa : WD} {wl wh : WO} (ha : PD X E a wa) (hl : OD X E lo wl) (hh : OD X E hi wh) : PD X E (.Subscript a (.Slice lo hi none p2) pos) (wSl wa wl wh) := by
  obtain ⟨ta, h1, h2⟩ := ha
  obtain ⟨tl, h3, h4⟩ := hl
  obtain ⟨th, h5, h6⟩ := hh
  refine ⟨_, pe_slice sl_all h1 h3 h5, fun δ n P PX w σ E0 Kn H s Q k x => ?_⟩
  refine h2 δ n _ PX w σ E0 Kn H s _ (fun n1 r v K1 H1 g1 p rp => ?_) x
  refine h4 δ n1 _ PX p σ E0 K1 H1 (s.gr g1) _ (fun n2 lo K2 H2 g2 p => ?_) (x.gr g1)
  refine h6 δ n2 _ PX p σ E0 K2 H2 ((s.gr g1).gr g2) _ (fun n3 hi K3 H3 g3 p => ?_) (x.gr (g1.trans g2))
  obtain ⟨y, e, p⟩ := p
  have v1 := ((Rep.vw (s.gr g1) rp e).mono g2).mono g3
  have g123 := (g1.trans g2).trans g3
  exact cut_sl (σ := σ) g3.kh v1 p fun z w K4 H4 g4 p4 r4 => k n3 z w K4 H4 (g123.trans g4) p4 (r4.rebase g123)

/-! ### join, split, partition -/
def joinS (sep : List Nat) : List (List Nat) → List Nat
  | [] => []
  | [p] => p
  | p :: q :: r => p ++ (sep ++ joinS sep (q :: r))
theorem joinS_eq (sep : List Nat) : ∀ ps, joinS sep ps = TL.joinL sep ps
  | [] => rfl
  | [_] => rfl
  | p :: q :: r => by
    rw [joinS, TL.joinL, joinS_eq sep (q :: r)]
/-- a text cut at each sign c -/
def cut1 (c : Nat) : List Nat → List (List Nat)
  | [] => [[]]
  | x :: r => if x = c then [] :: cut1 c r else match cut1 c r with
    | p :: ps => (x :: p) :: ps
    | [] => [[x]]
theorem cut1_ne (c : Nat) : ∀ x, cut1 c x ≠ []
  | [] => by simp [cut1]
  | x :: r => by
    unfold cut1
    split
    · simp
    · split <;> simp
theorem pre1 (c x : Nat) (r : List Nat) : TL.pre [c] (x :: r) = decide (x = c) := by
  unfold TL.pre
  show ([x] == [c]) = _
  by_cases h : x = c
  · subst h; simp
  · simp [h]
theorem spl1 (c : Nat) : ∀ (x acc : List Nat), TL.spl [c] 0 acc x = match cut1 c x with
    | p :: ps => (acc ++ p) :: ps
    | [] => []
  | [], acc => by
    rw [TL.spl_nil, cut1]
    show [acc] = [acc ++ []]
    rw [List.append_nil]
  | x :: r, acc => by
    by_cases h : x = c
    · rw [TL.spl_hit (by rw [pre1, decide_eq_true h]), cut1, if_pos h]
      show acc :: TL.spl [c] 0 [] r = (acc ++ []) :: cut1 c r
      rw [List.append_nil, spl1 c r []]
      cases q : cut1 c r with
      | nil => exact absurd q (cut1_ne c r)
      | cons p ps => rfl
    · rw [TL.spl_miss (by rw [pre1, decide_eq_false h]), cut1, if_neg h, spl1 c r]
      cases q : cut1 c r with
      | nil => exact absurd q (cut1_ne c r)
      | cons p ps =>
        show (acc ++ [x] ++ p) :: ps = (acc ++ (x :: p)) :: ps
        rw [List.append_assoc]; rfl
theorem split_S (c : Nat) (x : List Nat) (hc : c < 256) : Txt.split (S x) (S [c]) = (cut1 c x).map S := by
  apply TL.map_tl_inj
  rw [TL.split_spl _ _ (by show [c] ≠ []; simp) (TL.kind_ok (by show (#[c] : Array Nat).all (· < 256) = true; simp [hc]))]
  show TL.spl [c] 0 [] x = _
  rw [spl1]
  have e : ((cut1 c x).map S).map TL.tl = cut1 c x := by
    rw [List.map_map]
    exact List.map_id _
  rw [e]
  cases q : cut1 c x with
  | nil => exact absurd q (cut1_ne c x)
  | cons p ps => rfl
theorem cut1_mem (c : Nat) : ∀ (x : List Nat), ∀ p ∈ cut1 c x, ∀ d ∈ p, d ∈ x
  | [], p, hp, d, hd => by
    simp only [cut1, List.mem_singleton] at hp
    subst hp; exact hd
  | y :: r, p, hp, d, hd => by
    unfold cut1 at hp
    split at hp
    · rcases List.mem_cons.mp hp with rfl | hp
      · cases hd
      · exact List.mem_cons_of_mem _ (cut1_mem c r p hp d hd)
    · split at hp
      · rename_i p0 ps q
        have ih := cut1_mem c r
        rw [q] at ih
        rcases List.mem_cons.mp hp with rfl | hp
        · rcases List.mem_cons.mp hd with rfl | hd
          · exact List.mem_cons_self
          · exact List.mem_cons_of_mem _ (ih p0 List.mem_cons_self d hd)
        · exact List.mem_cons_of_mem _ (ih p (List.mem_cons_of_mem _ hp) d hd)
      · rw [List.mem_singleton] at hp
        subst hp
        rcases List.mem_cons.mp hd with rfl | hd
        · exact List.mem_cons_self
        · cases hd
theorem okS_parts {c : Nat} {x : List Nat} (h : okS x = true) : ∀ p ∈ cut1 c x, okS p = true := fun p hp => okS_sub h (cut1_mem c x p hp)
/-- what stands before the first c, whether there is one, what stands behind -/
def par1 (c : Nat) : List Nat → List Nat × List Nat × List Nat
  | [] => ([], [], [])
  | x :: r => if x = c then ([], [c], r) else (x :: (par1 c r).1, (par1 c r).2.1, (par1 c r).2.2)
theorem par_1 (c : Nat) : ∀ (x acc : List Nat), (TL.par [c] acc x = none ∧ c ∉ x) ∨ ∃ a b, TL.par [c] acc x = some (acc ++ a, b) ∧ x = a ++ c :: b ∧ c ∉ a
  | [], acc => .inl ⟨rfl, by simp⟩
  | x :: r, acc => by
    by_cases h : x = c
    · subst h
      exact .inr ⟨[], r, by rw [TL.par_hit (by rw [pre1, decide_eq_true rfl]), List.append_nil]; rfl, rfl, by simp⟩
    · rw [TL.par_miss (by rw [pre1, decide_eq_false h])]
      rcases par_1 c r (acc ++ [x]) with ⟨e, m⟩ | ⟨a, b, e, e2, m⟩
      · exact .inl ⟨e, by simp [m]; exact fun z => h z.symm⟩
      · exact .inr ⟨x :: a, b, by rw [e, List.append_assoc]; rfl, by rw [e2]; rfl, by simp [m]; exact fun z => h z.symm⟩
theorem par1_none {c : Nat} : ∀ {x : List Nat}, c ∉ x → par1 c x = (x, [], [])
  | [], _ => rfl
  | x :: r, h => by
    have h1 : x ≠ c := fun z => h (by rw [z]; exact List.mem_cons_self)
    have h2 : c ∉ r := fun z => h (List.mem_cons_of_mem _ z)
    rw [par1, if_neg h1, par1_none h2]
theorem par1_some {c : Nat} {b : List Nat} : ∀ {a : List Nat}, c ∉ a → par1 c (a ++ c :: b) = (a, [c], b)
  | [], _ => by rw [List.nil_append, par1, if_pos rfl]
  | x :: r, h => by
    have h1 : x ≠ c := fun z => h (by rw [z]; exact List.mem_cons_self)
    have h2 : c ∉ r := fun z => h (List.mem_cons_of_mem _ z)
    rw [List.cons_append, par1, if_neg h1, par1_some h2]
theorem partition_S (c : Nat) (x : List Nat) : Txt.partition (S x) (S [c]) = (S (par1 c x).1, S (par1 c x).2.1, S (par1 c x).2.2) := by
  rw [TL.partition_par _ _ (by show [c] ≠ []; simp)]
  show (match TL.par [c] [] x with | some (a, b) => _ | none => _) = _
  rcases par_1 c x [] with ⟨e, m⟩ | ⟨a, b, e, e2, m⟩
  · rw [e, par1_none m]; rfl
  · rw [e, e2, par1_some m]; rfl
theorem par1_mem (c : Nat) (x : List Nat) (hc : okS [c] = true) (h : okS x = true) : okS (par1 c x).1 = true ∧ okS (par1 c x).2.1 = true ∧ okS (par1 c x).2.2 = true := by
  by_cases m : c ∈ x
  · obtain ⟨a, b, e, e2⟩ := List.append_of_mem m |>.imp fun _ h => h.imp fun _ h => (⟨h, trivial⟩ : _ ∧ True)
    rcases par_1 c x [] with ⟨_, m'⟩ | ⟨a, b, _, e2, m'⟩
    · exact absurd m m'
    · subst e2
      rw [par1_some m']
      exact ⟨okS_sub h fun d hd => List.mem_append_left _ hd, hc, okS_sub h fun d hd => List.mem_append_right _ (List.mem_cons_of_mem _ hd)⟩
  · rw [par1_none m]
    exact ⟨h, rfl, rfl⟩
/-- sep.join(list) -/
def D.strL : List D → Option (List (List Nat))
  | [] => some []
  | .str x :: r => (D.strL r).map (x :: ·)
  | _ :: _ => none
theorem D.strL_eq : ∀ {ds : List D} {ys : List (List Nat)}, D.strL ds = some ys → ds = ys.map .str
  | [], ys, h => by cases h; rfl
  | .str x :: r, ys, h => by
    unfold D.strL at h
    cases q : D.strL r with
    | none => rw [q] at h; cases h
    | some zs =>
      rw [q] at h
      cases h
      rw [D.strL_eq q]; rfl
theorem D.strL_map : ∀ ys : List (List Nat), D.strL (ys.map .str) = some ys
  | [] => rfl
  | y :: ys => by
    show (D.strL (ys.map .str)).map (y :: ·) = _
    rw [D.strL_map ys]; rfl
theorem okS_join {sep : List Nat} (h : okS sep = true) : ∀ {ys : List (List Nat)}, (∀ y ∈ ys, okS y = true) → okS (joinS sep ys) = true
  | [], _ => rfl
  | [p], hy => hy p List.mem_cons_self
  | p :: q :: r, hy => by
    rw [joinS]
    exact okS_app (hy p List.mem_cons_self) (okS_app h (okS_join h fun y m => hy y (List.mem_cons_of_mem _ m)))
theorem join_S (sep : List Nat) (ys : List (List Nat)) : Txt.join (S sep) (ys.map S) = S (joinS sep ys) := by
  have e : Txt.join (S sep) (ys.map S) = PySem.Str.join (S sep) (ys.map S) := TL.join_eq _ _
  apply TL.ext_tl
  rw [e, TL.tl_join, List.map_map]
  show TL.joinL sep (ys.map (TL.tl ∘ S)) = joinS sep ys
  rw [joinS_eq]
  congr 1
  exact List.map_id _
def wJoin (wo we : WD) : WD := fun δ n P PX => wo δ n (fun n1 r1 => ∃ sep, r1 = .d (.str sep) ∧ we δ n1 (fun n2 r2 => ∃ ds ys, (vw δ r2 = some (.lst ds) ∨ vw δ r2 = some (.tup ds)) ∧ D.strL ds = some ys ∧
  (ys.map (·.length)).sum + ys.length * sep.length ≤ 16777216 ∧ P n2 (.d (.str (joinS sep ys)))) PX) PX
theorem pd_join {wo we : WD} (ho : PD X E a wo) (he : PD X E e we) (hs : starEach [e] X.env = [(false, eval e X.env)] := by rfl) (hbase : attributeBase a "join" X.env (eval a X.env) = eval a X.env := by rfl) (hline : (apos.endLine == pos.line) = true := by rfl) :
    PD X E (.Call (.Attribute a "join" apos) [e] [] pos) (wJoin wo we) := by
  obtain ⟨ta, h1, h2⟩ := ho
  obtain ⟨tb, h3, h4⟩ := he
  refine ⟨_, pe_join h1 h3 hs hbase hline, fun δ n P PX w σ E0 Kn H s Q k x => ?_⟩
  refine h2 δ n _ PX w σ E0 Kn H s _ (fun n1 r v K1 H1 g1 p rp => ?_) x
  obtain ⟨sep, rfl, p⟩ := p
  obtain ⟨rfl, o1⟩ := rp
  refine ⟨⟨_, rfl⟩, ?_⟩
  refine h4 δ n1 _ PX p σ E0 K1 H1 (s.gr g1) _ (fun n2 r v K2 H2 g2 p rp => ?_) (x.gr g1)
  obtain ⟨ds, ys, e1, e2, hz, p⟩ := p
  have e3 := D.strL_eq e2
  subst e3
  have sum : ((ys.map S).map (·.length)).sum + (ys.map S).length * (S sep).length ≤ 16777216 := by
    rw [List.map_map, List.length_map]
    exact hz
  have fin : ∀ {vs : List V}, Dts X.K K2 (ys.map D.str) vs → vs = (ys.map S).map V.str ∧ Rep X.K H K2 H2 σ (.d (.str (joinS sep ys))) (.str (Txt.join (S sep) (ys.map S))) := fun {vs} hd => by
    obtain ⟨e4, o⟩ := Dts.strs_v hd
    refine ⟨by rw [e4, List.map_map]; rfl, by rw [join_S], okS_join o1 o⟩
  rcases e1 with e1 | e1
  · obtain ⟨b, vs, rfl, _, h5, h6⟩ := Rep.vw ((s.gr g1).gr g2) rp e1
    obtain ⟨rfl, f⟩ := fin h6
    exact ⟨S sep, b, ys.map S, rfl, rfl, .inl (SqL.of h5), sum, k n2 _ _ K2 H2 (g1.trans g2) p f⟩
  · obtain ⟨b, vs, rfl, h5, h6⟩ := Rep.vw ((s.gr g1).gr g2) rp e1
    obtain ⟨rfl, f⟩ := fin h6
    exact ⟨S sep, b, ys.map S, rfl, rfl, .inr (sqT_kno g2.kh h5), sum, k n2 _ _ K2 H2 (g1.trans g2) p f⟩
/-- x.split(c) -/
def wSplit (wo we : WD) : WD := fun δ n P PX => wo δ n (fun n1 r1 => ∃ y, r1 = .d (.str y) ∧ we δ n1 (fun n2 r2 => ∃ c, r2 = .d (.str [c]) ∧ c < 256 ∧ y.length + 2 ≤ sizeLine ∧ P n2 (.n ((cut1 c y).map .str))) PX) PX
theorem pd_split {wo we : WD} (ho : PD X E a wo) (he : PD X E e we) (hs : starEach [e] X.env = [(false, eval e X.env)] := by rfl) (hbase : attributeBase a "split" X.env (eval a X.env) = eval a X.env := by rfl) (hline : (apos.endLine == pos.line) = true := by rfl) :
    PD X E (.Call (.Attribute a "split" apos) [e] [] pos) (wSplit wo we) := by
  obtain ⟨ta, h1, h2⟩ := ho
  obtain ⟨tb, h3, h4⟩ := he
  refine ⟨_, pe_split h1 h3 hs hbase hline, fun δ n P PX w σ E0 Kn H s Q k x => ?_⟩
  refine h2 δ n _ PX w σ E0 Kn H s _ (fun n1 r v K1 H1 g1 p rp => ?_) x
  obtain ⟨y, rfl, p⟩ := p
  obtain ⟨rfl, o1⟩ := rp
  refine ⟨⟨_, rfl⟩, ?_⟩
  refine h4 δ n1 _ PX p σ E0 K1 H1 (s.gr g1) _ (fun n2 r v K2 H2 g2 p rp => ?_) (x.gr g1)
  obtain ⟨c, rfl, hc, hz, p⟩ := p
  obtain ⟨rfl, o2⟩ := rp
  refine ⟨S y, S [c], rfl, rfl, rfl, hz, fun l hl => ?_⟩
  rw [split_S c y hc, List.map_map]
  have g12 := g1.trans g2
  exact k n2 _ _ _ _ (g12.trans (Gr.lst g2.kh hl)) p ((rep_new g2.kh hl (Dts.strs _ (okS_parts o1))).rebase g12)
/-- x.partition(c) -/
def wPartn (wo we : WD) : WD := fun δ n P PX => wo δ n (fun n1 r1 => ∃ y, r1 = .d (.str y) ∧ we δ n1 (fun n2 r2 => ∃ c, r2 = .d (.str [c]) ∧ y.length ≤ sizeLine ∧ P n2 (.d (.tup [.str (par1 c y).1, .str (par1 c y).2.1, .str (par1 c y).2.2]))) PX) PX
theorem pd_partition {wo we : WD} (ho : PD X E a wo) (he : PD X E e we) (hs : starEach [e] X.env = [(false, eval e X.env)] := by rfl) (hbase : attributeBase a "partition" X.env (eval a X.env) = eval a X.env := by rfl) (hline : (apos.endLine == pos.line) = true := by rfl) :
    PD X E (.Call (.Attribute a "partition" apos) [e] [] pos) (wPartn wo we) := by
  obtain ⟨ta, h1, h2⟩ := ho
  obtain ⟨tb, h3, h4⟩ := he
  refine ⟨_, pe_partition h1 h3 hs hbase hline, fun δ n P PX w σ E0 Kn H s Q k x => ?_⟩
  refine h2 δ n _ PX w σ E0 Kn H s _ (fun n1 r v K1 H1 g1 p rp => ?_) x
  obtain ⟨y, rfl, p⟩ := p
  obtain ⟨rfl, o1⟩ := rp
  refine ⟨⟨_, rfl⟩, ?_⟩
  refine h4 δ n1 _ PX p σ E0 K1 H1 (s.gr g1) _ (fun n2 r v K2 H2 g2 p rp => ?_) (x.gr g1)
  obtain ⟨c, rfl, hz, p⟩ := p
  obtain ⟨rfl, o2⟩ := rp
  refine ⟨S y, S [c], rfl, rfl, rfl, hz, fun l hl => ?_⟩
  rw [partition_S]
  have g12 := g1.trans g2
  obtain ⟨q1, q2, q3⟩ := par1_mem c y o2 o1
  have gr := Gr.new (o := .tup [.str (S (par1 c y).1), .str (S (par1 c y).2.1), .str (S (par1 c y).2.2)]) g2.kh hl rfl
  exact k n2 _ _ _ _ (g12.trans gr) p ⟨l, _, rfl, sqT_new, _, _, rfl, ⟨rfl, q1⟩, _, _, rfl, ⟨rfl, q2⟩, _, _, rfl, ⟨rfl, q3⟩, rfl⟩
end
end DL
/-! The data layer, part e: what is walked, targets, comprehensions, attributes. -/
namespace DL
open PySem PySem.Spec PyProof.Rows L2

/-! ### what is walked: the items are data -/
structure WalkD (K : PySem.W.Frag) (J : It) (Kn : Hp) (ds : List D) : Prop where
  go : ∀ i Kn2 H2 m, Same Kn Kn2 → Kno Kn2 H2 m → i < ds.length → J.go i H2
  yld : ∀ i Kn2 H2 m x H3, Same Kn Kn2 → Kno Kn2 H2 m → i < ds.length → J.yld i H2 x H3 → ∃ Kn3 d, Gr Kn2 H2 Kn3 H3 m ∧ ds[i]? = some d ∧ Dt K Kn3 d x
  stop : ∀ i Kn2 H2 m, Same Kn Kn2 → Kno Kn2 H2 m → ds.length ≤ i → J.stop i H2
abbrev WI := List Sl → Gh → (Gh → List D → Prop) → PXT → Prop
def ID (X : Cx) (E : WX) (tg iter : Expr) (w : WI) : Prop := ∃ ti, PI X tg iter ti ∧ ∀ δ n P PX, w δ n P PX →
  ∀ σ E0 Kn H, StOk X.K δ σ E0 Kn H n → ∀ R : It → Hp → Prop, (∀ n' ds J Kn' H', Gr Kn H Kn' H' n' → P n' ds → WalkD X.K J Kn' ds → R J H') → ExOk X.K E δ PX σ Kn H → ti σ H R
section
variable {X : Cx} {E : WX} {e a b c tg : Expr} {es : List Expr} {pos p apos : Pos} {K : PySem.W.Frag}
theorem Dts.inj {Kn : Hp} {ds : List D} {vs ws : List V} {i : Nat} {x : V} (h : Dts K Kn ds vs) (e : vs = ws) (g : ws[i]? = some x) : ∃ d, ds[i]? = some d ∧ Dt K Kn d x := by
  subst e
  exact h.getV g
theorem walk_lst {Kn : Hp} {a : Addr} {vs : List V} {ds : List D} (h : Kn a = some (.lst vs)) (hd : Dts K Kn ds vs) : WalkD K (Itl K a) Kn ds where
  go := fun i Kn2 H2 m sm k hi => by
    obtain ⟨v, e, _⟩ := hd.get (List.getElem?_eq_getElem hi)
    exact ⟨vs, v, SqL.of (k.of (sm _ _ h) rfl), e⟩
  yld := fun i Kn2 H2 m x H3 sm k _ y => by
    obtain ⟨rfl, y⟩ := y
    obtain ⟨d, e, hx⟩ := hd.getV (y vs (SqL.of (k.of (sm _ _ h) rfl)))
    exact ⟨Kn2, d, Gr.refl k, e, Dt.mono sm _ _ hx⟩
  stop := fun i Kn2 H2 m sm k hi => ⟨vs, SqL.of (k.of (sm _ _ h) rfl), by rw [← hd.length]; exact hi⟩
theorem walk_tup {Kn : Hp} {a : Addr} {vs : List V} {ds : List D} (h : SqT K Kn a vs) (hd : Dts K Kn ds vs) : WalkD K (Itt K a) Kn ds where
  go := fun i Kn2 H2 m sm k hi => by
    obtain ⟨v, e, _⟩ := hd.get (List.getElem?_eq_getElem hi)
    exact ⟨vs, v, sqT_kno k (sqT_same sm h), e⟩
  yld := fun i Kn2 H2 m x H3 sm k _ y => by
    obtain ⟨rfl, y⟩ := y
    obtain ⟨d, e, hx⟩ := hd.getV (y vs (sqT_kno k (sqT_same sm h)))
    exact ⟨Kn2, d, Gr.refl k, e, Dt.mono sm _ _ hx⟩
  stop := fun i Kn2 H2 m sm k hi => ⟨vs, sqT_kno k (sqT_same sm h), by rw [← hd.length]; exact hi⟩
theorem walk_frl {Kn : Hp} {a : Addr} {ns : List Int} (h : SqL K Kn a (ns.map V.int)) : WalkD K (Itl K a) Kn (ns.map .int) where
  go := fun i Kn2 H2 m sm k hi => by
    rw [List.length_map] at hi
    exact ⟨_, .int ns[i], sqL_kno k (sm.seq h), by rw [List.getElem?_map, List.getElem?_eq_getElem hi]; rfl⟩
  yld := fun i Kn2 H2 m x H3 sm k _ y => by
    obtain ⟨rfl, y⟩ := y
    have e := y _ (sqL_kno k (sm.seq h))
    rw [List.getElem?_map] at e
    cases q : ns[i]? with
    | none => rw [q] at e; cases e
    | some z =>
      rw [q] at e
      cases e
      exact ⟨Kn2, .int z, Gr.refl k, by rw [List.getElem?_map, q]; rfl, rfl⟩
  stop := fun i Kn2 H2 m sm k hi => ⟨_, sqL_kno k (sm.seq h), by rw [List.length_map] at *; exact hi⟩
theorem walk_str {Kn : Hp} {x : List Nat} (o : okS x = true) : WalkD K (Its (S x)) Kn (x.map fun c => .str [c]) where
  go := fun i Kn2 H2 m sm k hi => by
    rw [List.length_map] at hi
    exact hi
  yld := fun i Kn2 H2 m v H3 sm k _ y => by
    obtain ⟨rfl, c, e, rfl⟩ := y
    have e : x[i]? = some c := by
      have : (S x).cps[i]? = x[i]? := List.getElem?_toArray
      rw [← this]; exact e
    exact ⟨Kn2, .str [c], Gr.refl k, by rw [List.getElem?_map, e]; rfl, rfl, okS_mem o (List.mem_of_getElem? e)⟩
  stop := fun i Kn2 H2 m sm k hi => by
    rw [List.length_map] at hi
    exact hi
def rngD (lo : Int) (n : Nat) : List D := (List.range n).map fun (i : Nat) => .int (lo + i)
theorem walk_rng {Kn : Hp} {lo : Int} {n : Nat} : WalkD K (Itr lo n) Kn (rngD lo n) where
  go := fun i Kn2 H2 m sm k hi => by
    unfold rngD at hi
    rw [List.length_map, List.length_range] at hi
    exact hi
  yld := fun i Kn2 H2 m v H3 sm k hi y => by
    obtain ⟨rfl, rfl⟩ := y
    unfold rngD at hi
    rw [List.length_map, List.length_range] at hi
    refine ⟨Kn2, .int (lo + i), Gr.refl k, ?_, rfl⟩
    unfold rngD
    rw [List.getElem?_map, List.getElem?_range hi]; rfl
  stop := fun i Kn2 H2 m sm k hi => by
    unfold rngD at hi
    rw [List.length_map, List.length_range] at hi
    exact hi
theorem walk_rngC {Kn : Hp} {lo cc : Int} {n : Nat} : WalkD K (Itc lo cc n) Kn ((List.range n).map fun (i : Nat) => .int (lo + i * cc)) where
  go := fun i Kn2 H2 m sm k hi => by
    rw [List.length_map, List.length_range] at hi
    exact hi
  yld := fun i Kn2 H2 m v H3 sm k hi y => by
    obtain ⟨rfl, rfl⟩ := y
    rw [List.length_map, List.length_range] at hi
    exact ⟨Kn2, .int (lo + i * cc), Gr.refl k, by rw [List.getElem?_map, List.getElem?_range hi]; rfl, rfl⟩
  stop := fun i Kn2 H2 m sm k hi => by
    rw [List.length_map, List.length_range] at hi
    exact hi
def enumD (ds : List D) : List D := ds.mapIdx fun i d => .tup [.int (i : Nat), d]
theorem walk_enum {Kn : Hp} {a : Addr} {vs : List V} {ds : List D} (h : Kn a = some (.lst vs)) (hd : Dts K Kn ds vs) : WalkD K (Ite K a) Kn (enumD ds) where
  go := fun i Kn2 H2 m sm k hi => by
    unfold enumD at hi
    rw [List.length_mapIdx] at hi
    obtain ⟨v, e, _⟩ := hd.get (List.getElem?_eq_getElem hi)
    exact ⟨vs, v, SqL.of (k.of (sm _ _ h) rfl), e⟩
  yld := fun i Kn2 H2 m x H3 sm k _ y => by
    obtain ⟨T, z, rfl, hT, rfl, y⟩ := y
    obtain ⟨d, e, hx⟩ := hd.getV (y vs (SqL.of (k.of (sm _ _ h) rfl)))
    have gr := Gr.new (o := .tup [.int (i : Nat), z]) k hT rfl
    refine ⟨_, .tup [.int (i : Nat), d], gr, ?_, T, _, rfl, sqT_new, _, _, rfl, rfl, _, _, rfl, Dt.mono gr.kk _ _ (Dt.mono sm _ _ hx), rfl⟩
    unfold enumD
    rw [List.getElem?_mapIdx, e]; rfl
  stop := fun i Kn2 H2 m sm k hi => by
    unfold enumD at hi
    rw [List.length_mapIdx] at hi
    exact ⟨vs, SqL.of (k.of (sm _ _ h) rfl), by rw [← hd.length]; exact hi⟩

/-- a list, a tuple or a text that is walked -/
def iAny (K : PySem.W.Frag) (te : TE) : TI := fun σ H R => te σ H fun x H1 => (∃ a vs, x = .ref a ∧ SqL K H1 a vs ∧ R (Itl K a) H1) ∨ (∃ a vs, x = .ref a ∧ SqT K H1 a vs ∧ R (Itt K a) H1) ∨ ∃ y, x = .str y ∧ R (Its y) H1
theorem pi_any {l : Expr} {te : TE} (hl : PE X l te) : PI X tg l (iAny X.K te) := by
  refine ⟨fun pins s σ H R I h => ?_⟩
  refine thn (hl.run pins s σ H _ I h) fun v s1 ⟨x, H1, I1, r1, q1⟩ => ?_
  have fresh : ∀ {b : Addr} {o : Obj}, b ∈ [s1.heap.objs.size] → FpOk X pins H1 b := fun {b o} hb => by
    have e : b = s1.heap.objs.size := by simpa using hb
    subst e
    exact I1.fpOk (Nat.le_refl _) (I1.hok.fresh (Nat.le_refl _))
  rcases q1 with ⟨a, vs, rfl, hq, q⟩ | ⟨a, vs, rfl, hq, q⟩ | ⟨y, rfl, q⟩
  · cases r1
    obtain ⟨its, rv, pp, hz⟩ := I1.list hq
    refine wpAny_pyIter_list pp.isList ?_
    exact ⟨_, [s1.heap.objs.size], _, _, H1, rfl, I1.kept (t' := s1.toks) fun b o e => Heap.get?_push_of_some _ e, turn_list a _, ⟨_, Heap.get?_push_size _ rfl, rfl, rfl⟩, fun b hb => fresh (o := default) hb, q⟩
  · cases r1
    obtain ⟨its, rv, pp, hz⟩ := I1.tuple hq
    refine wpAny_pyIter_tuple (show s1.heap.IsTuple a its.toArray from pp) ?_
    exact ⟨_, [s1.heap.objs.size], _, _, H1, rfl, I1.kept (t' := s1.toks) fun b o e => Heap.get?_push_of_some _ e, turn_tuple a _, ⟨_, Heap.get?_push_size _ rfl, rfl, rfl⟩, fun b hb => fresh (o := default) hb, q⟩
  · obtain ⟨t, rfl⟩ := r1
    cases ha : y.cps.all (· < 128)
    · exact wpAny_pyIter_wide ha (pi_one (tk := s1.toks) I1 _ (turn_str _ y t "str_iterator" (.inr rfl)) ⟨_, Heap.get?_push_size _ rfl, rfl, rfl⟩ q)
    · exact wpAny_pyIter_ascii ha (pi_one (tk := s1.toks) I1 _ (turn_str _ y t "str_ascii_iterator" (.inl rfl)) ⟨_, Heap.get?_push_size _ rfl, rfl, rfl⟩ q)
def D.seq : D → Option (List D)
  | .lst xs => some xs
  | .tup xs => some xs
  | .frl ns => some (ns.map .int)
  | .str x => some (x.map fun c => .str [c])
  | _ => none
def wIt (w : WD) : WI := fun δ n P PX => w δ n (fun n1 r => ∃ x ds, r.dat = some x ∧ x.seq = some ds ∧ P n1 ds) PX
theorem id_any {w : WD} (h : PD X E e w) : ID X E tg e (wIt w) := by
  obtain ⟨t, h1, h2⟩ := h
  refine ⟨_, pi_any h1, fun δ n P PX w σ E0 Kn H s R k x => ?_⟩
  refine h2 δ n _ PX w σ E0 Kn H s _ (fun n1 r v K1 H1 g1 p rp => ?_) x
  obtain ⟨y, ds, e1, e2, p⟩ := p
  obtain ⟨K2, g2, sm, hd, _⟩ := rp.dat g1 e1
  cases y <;> first | cases e2 | skip
  · obtain ⟨rfl, o⟩ := hd
    exact .inr (.inr ⟨_, rfl, k n1 _ _ K2 H1 g2 p (walk_str o)⟩)
  · obtain ⟨a, vs, rfl, h3, h4⟩ := hd
    exact .inr (.inl ⟨a, vs, rfl, sqT_kno g2.kh h3, k n1 _ _ K2 H1 g2 p (walk_tup h3 h4)⟩)
  · obtain ⟨a, vs, rfl, h3, h4⟩ := hd
    exact .inl ⟨a, vs, rfl, SqL.of (g2.kh.of h3 rfl), k n1 _ _ K2 H1 g2 p (walk_lst h3 h4)⟩
  · obtain ⟨a, rfl, h3⟩ := hd
    exact .inl ⟨a, _, rfl, sqL_kno g2.kh h3, k n1 _ _ K2 H1 g2 p (walk_frl h3)⟩
def wRng1 (wa : WA) : WI := fun δ n P PX => wa δ n (fun n1 as => ∃ j, as = [.d (.int j)] ∧ -(2 ^ 62) ≤ j ∧ j < 2 ^ 62 ∧ P n1 (rngD 0 j.toNat)) PX
def wRng2 (wa : WA) : WI := fun δ n P PX => wa δ n (fun n1 as => ∃ i j, as = [.d (.int i), .d (.int j)] ∧ (-(2 ^ 62) ≤ i ∧ i < 2 ^ 62 ∧ -(2 ^ 62) ≤ j ∧ j < 2 ^ 62) ∧ P n1 (rngD i (j - i).toNat)) PX
def wRng3 (wa : WA) : WI := fun δ n P PX => wa δ n (fun n1 as => ∃ i j cc k, as = [.d (.int i), .d (.int j), .d (.int cc)] ∧ RgC i j cc k ∧ P n1 ((List.range k).map fun (m : Nat) => .int (i + m * cc))) PX
theorem id_range1 {wa : WA} (hg : Gl X "range") (hm : X.mg "range" = none) (ha : AD X E [a] wa) (hs : starEach [a] X.env = [(false, eval a X.env)] := by rfl) : ID X E tg (.Call (.Name "range" p) [a] [] pos) (wRng1 wa) := by
  obtain ⟨t, h1, h2⟩ := ha
  refine ⟨_, pi_range1 hg hm h1 hs, fun δ n P PX w σ E0 Kn H s R k x => ?_⟩
  refine h2 δ n _ PX w σ E0 Kn H s _ (fun n1 as vs K1 H1 g1 p ra => ?_) x
  obtain ⟨j, rfl, b1, b2, p⟩ := p
  obtain ⟨v, ws, rfl, rfl, rfl⟩ := ra
  exact ⟨j, rfl, b1, b2, k n1 _ _ K1 H1 g1 p walk_rng⟩
theorem id_range2 {wa : WA} (hg : Gl X "range") (hm : X.mg "range" = none) (ha : AD X E [a, b] wa) (hs : starEach [a, b] X.env = [(false, eval a X.env), (false, eval b X.env)] := by rfl) (hs2 : starEach [b] X.env = [(false, eval b X.env)] := by rfl) :
    ID X E tg (.Call (.Name "range" p) [a, b] [] pos) (wRng2 wa) := by
  obtain ⟨t, h1, h2⟩ := ha
  refine ⟨_, pi_range2 hg hm h1 hs hs2, fun δ n P PX w σ E0 Kn H s R k x => ?_⟩
  refine h2 δ n _ PX w σ E0 Kn H s _ (fun n1 as vs K1 H1 g1 p ra => ?_) x
  obtain ⟨i, j, rfl, b1, p⟩ := p
  obtain ⟨v, ws, rfl, rfl, v2, ws2, rfl, rfl, rfl⟩ := ra
  exact ⟨i, j, rfl, b1, k n1 _ _ K1 H1 g1 p walk_rng⟩
theorem id_range3 {wa : WA} (hg : Gl X "range") (hm : X.mg "range" = none) (ha : AD X E [a, b, c] wa) (hs : starEach [a, b, c] X.env = (false, eval a X.env) :: starEach [b, c] X.env := by rfl) (hpl : (backTo pos (starEach [b, c] X.env)).any (·.1) = false := by rfl) :
    ID X E tg (.Call (.Name "range" p) [a, b, c] [] pos) (wRng3 wa) := by
  obtain ⟨t, h1, h2⟩ := ha
  refine ⟨_, pi_range3 hg hm h1 hs hpl, fun δ n P PX w σ E0 Kn H s R k x => ?_⟩
  refine h2 δ n _ PX w σ E0 Kn H s _ (fun n1 as vs K1 H1 g1 p ra => ?_) x
  obtain ⟨i, j, cc, m, rfl, b1, p⟩ := p
  obtain ⟨v, ws, rfl, rfl, v2, ws2, rfl, rfl, v3, ws3, rfl, rfl, rfl⟩ := ra
  exact ⟨i, j, cc, m, rfl, b1, k n1 _ _ K1 H1 g1 p walk_rngC⟩
def wEnum (wa : WA) : WI := fun δ n P PX => wa δ n (fun n1 as => ∃ ds, as = [.d (.lst ds)] ∧ P n1 (enumD ds)) PX
theorem id_enum {wa : WA} {elts : List Expr} {kk : Nat} {tpos : Pos} (hg : Gl X "enumerate") (hm : X.mg "enumerate" = none) (ha : AD X E [e] wa) (hs : starEach [e] X.env = [(false, eval e X.env)] := by rfl) :
    ID X E (.Tuple elts kk tpos) (.Call (.Name "enumerate" p) [e] [] pos) (wEnum wa) := by
  obtain ⟨t, h1, h2⟩ := ha
  refine ⟨_, pi_enum hg hm h1 hs, fun δ n P PX w σ E0 Kn H s R k x => ?_⟩
  refine h2 δ n _ PX w σ E0 Kn H s _ (fun n1 as vs K1 H1 g1 p ra => ?_) x
  obtain ⟨ds, rfl, p⟩ := p
  obtain ⟨v, ws, rfl, ⟨a, us, rfl, h3, h4⟩, rfl⟩ := ra
  exact ⟨a, us, rfl, SqL.of (g1.kh.of h3 rfl), k n1 _ _ K1 H1 g1 p (walk_enum h3 h4)⟩

/-! ### targets -/
abbrev WG := D → List Sl → (List Sl → Prop) → Prop
def Keep (is : List Nat) (σ σ' : L2.St) : Prop := σ'.length = σ.length ∧ ∀ j, j ∉ is → σ'[j]? = σ[j]?
def EvG (K : PySem.W.Frag) (is : List Nat) (g : TG) (wg : WG) : Prop := ∀ d δ (P : List Sl → Prop), wg d δ P → ∀ σ E0 Kn H n v, StOk K δ σ E0 Kn H n → Dt K Kn d v → ∀ Q : L2.St → Hp → Prop, (∀ δ' σ', StOk K δ' σ' E0 Kn H n → Keep is σ σ' → P δ' → Q σ' H) → g v σ H Q
def GD (X : Cx) (tg : Expr) (is : List Nat) (wg : WG) : Prop := ∃ g, PG X tg g ∧ EvG X.K is g wg
abbrev WGs := List D → List Sl → (List Sl → Prop) → Prop
def EvGs (K : PySem.W.Frag) (is : List Nat) (g : TGs) (wg : WGs) : Prop := ∀ ds δ (P : List Sl → Prop), wg ds δ P → ∀ σ E0 Kn H n vs, StOk K δ σ E0 Kn H n → Dts K Kn ds vs → ∀ Q : L2.St → Hp → Prop, (∀ δ' σ', StOk K δ' σ' E0 Kn H n → Keep is σ σ' → P δ' → Q σ' H) → g vs σ H Q
def GDs (X : Cx) (tgs : List Expr) (is : List Nat) (wg : WGs) : Prop := ∃ g, PGs X tgs g ∧ EvGs X.K is g wg
def wgN (i : Nat) : WG := fun d δ P => P (δ.set i (.d d))
theorem gd_name {i : Nat} {x : PySem.Str} (hN : X.N.Nodup) (hi : X.N[i]? = some x) (hx : Loc X.env.scope x) (hf : X.fn x = true ∨ X.env.scope.names.lookup x = some .local := by first | exact .inl rfl | exact .inr rfl | assumption) : GD X (.Name x pos) [i] (wgN i) :=
  ⟨_, pg_name hN hi hx hf, fun d δ P w σ E0 Kn H n v s hd Q k => k _ _ (s.setD i hd) ⟨List.length_set .., fun j hj => List.getElem?_set_ne (fun z => hj (by rw [z]; exact List.mem_singleton.mpr rfl))⟩ w⟩
def wgNil : WGs := fun ds δ P => ds = [] ∧ P δ
def wgCons (g : WG) (gs : WGs) : WGs := fun ds δ P => ∃ d r, ds = d :: r ∧ g d δ fun δ' => gs r δ' P
theorem gds_nil : GDs X [] [] wgNil := ⟨_, pgs_nil, fun ds δ P w σ E0 Kn H n vs s hd Q k => by
  obtain ⟨rfl, w⟩ := w
  obtain rfl : vs = [] := hd
  exact ⟨rfl, k δ σ s ⟨rfl, fun _ _ => rfl⟩ w⟩⟩
theorem gds_cons {wg : WG} {wgs : WGs} {is js : List Nat} (h1 : GD X e is wg) (h2 : GDs X es js wgs) (hs : (assignEach (e :: es) X.env).map (·.2) = assign e X.env :: (assignEach es X.env).map (·.2) := by rfl) : GDs X (e :: es) (is ++ js) (wgCons wg wgs) := by
  obtain ⟨g, h1, h3⟩ := h1
  obtain ⟨gs, h2, h4⟩ := h2
  refine ⟨_, pgs_cons h1 h2 hs, fun ds δ P w σ E0 Kn H n vs s hd Q k => ?_⟩
  obtain ⟨d, r, rfl, w⟩ := w
  obtain ⟨v, ws, rfl, h5, h6⟩ := hd
  refine ⟨v, ws, rfl, h3 d δ _ w σ E0 Kn H n v s h5 _ fun δ' σ' s' k1 w' => ?_⟩
  exact h4 r δ' P w' σ' E0 Kn H n ws s' h6 Q fun δ2 σ2 s2 k2 w2 => k δ2 σ2 s2 ⟨k2.1.trans k1.1, fun j hj => (k2.2 j fun z => hj (List.mem_append_right _ z)).trans (k1.2 j fun z => hj (List.mem_append_left _ z))⟩ w2
def wgTup (m : Nat) (g : WGs) : WG := fun d δ P => ∃ xs, d = .tup xs ∧ xs.length = m ∧ g xs δ P
theorem gd_tup {k : Nat} {wg : WGs} {m : Nat} {is : List Nat} (hc : X.calm = true) (h : GDs X es is wg) (hn : (assignEach es X.env).length = m := by rfl) (hst : (assignEach es X.env).findIdx? (·.1) = none := by rfl) : GD X (.Tuple es k pos) is (wgTup m wg) := by
  obtain ⟨g, h1, h2⟩ := h
  refine ⟨_, pg_tup hc h1 hn hst, fun d δ P w σ E0 Kn H n v s hd Q kk => ?_⟩
  obtain ⟨xs, rfl, hl, w⟩ := w
  obtain ⟨a, vs, rfl, h3, h4⟩ := hd
  exact ⟨a, vs, rfl, sqT_kno s.kno h3, by rw [← h4.length]; exact hl, h2 xs δ P w σ E0 Kn H n vs s h4 Q kk⟩

/-! ### one te for all contexts -/
def EF : WX := fun _ _ _ _ => False
def PXF : PXT := fun _ _ _ _ => False
def teOf (K : PySem.W.Frag) (E : WX) (w : WD) : TE := fun σ H Q => ∃ δ n P PX E0 Kn, StOk K δ σ E0 Kn H n ∧ w δ n P PX ∧ (∀ n' r v Kn' H', Gr Kn H Kn' H' n' → P n' r → Rep K H Kn' H' σ r v → Q v H') ∧ ExOk K E δ PX σ Kn H
def ttOf (K : PySem.W.Frag) (E : WX) (w : WT) : TT := fun σ H Q => ∃ δ n P PX E0 Kn, StOk K δ σ E0 Kn H n ∧ w δ n P PX ∧ (∀ n' r Kn' H', Gr Kn H Kn' H' n' → P n' r → Q r H') ∧ ExOk K E δ PX σ Kn H
def tgOf (K : PySem.W.Frag) (is : List Nat) (w : WG) : TG := fun v σ H Q => ∃ d δ P E0 Kn n, StOk K δ σ E0 Kn H n ∧ Dt K Kn d v ∧ w d δ P ∧ ∀ δ' σ', StOk K δ' σ' E0 Kn H n → Keep is σ σ' → P δ' → Q σ' H
theorem PD.pe {w : WD} (h : PD X E e w) : PE X e (teOf X.K E w) := by
  obtain ⟨te, h1, h2⟩ := h
  refine ⟨fun pins s σ H Q I q => ?_⟩
  obtain ⟨δ, n, P, PX, E0, Kn, st, hw, k, x⟩ := q
  exact h1.run pins s σ H Q I (h2 δ n P PX hw σ E0 Kn H st Q k x)
theorem TD.pt {w : WT} (h : TD X E e w) : PT X e (ttOf X.K E w) := by
  obtain ⟨te, h1, h2⟩ := h
  refine ⟨fun pins s σ H Q I q => ?_⟩
  obtain ⟨δ, n, P, PX, E0, Kn, st, hw, k, x⟩ := q
  exact h1.run pins s σ H Q I (h2 δ n P PX hw σ E0 Kn H st Q k x)
theorem GD.pg {w : WG} {is : List Nat} (h : GD X tg is w) : PG X tg (tgOf X.K is w) := by
  obtain ⟨g, h1, h2⟩ := h
  refine ⟨fun pins s σ H v u Q I r q => ?_⟩
  obtain ⟨d, δ, P, E0, Kn, n, st, hd, hw, k⟩ := q
  exact h1.run pins s σ H v u Q I r (h2 d δ P hw σ E0 Kn H n v st hd Q k)

/-! ### comprehensions -/
def wipeD (δ : List Sl) : List Nat → List Sl
  | [] => δ
  | v :: vs => (wipeD δ vs).set v .u
theorem StOk.setU {δ : List Sl} {σ : L2.St} {E0 Kn H : Hp} {n : Gh} (s : StOk K δ σ E0 Kn H n) (i : Nat) (ov : Option V) : StOk K (δ.set i .u) (σ.set i ov) E0 Kn H n where
  kno := s.kno
  dom := s.dom
  len := by rw [List.length_set, List.length_set, s.len]
  at_ := fun j t e => by
    by_cases hj : i = j
    · subst hj
      have hi : i < δ.length := by
        have := (List.getElem?_eq_some_iff.mp e).1
        rwa [List.length_set] at this
      rw [List.getElem?_set_self hi] at e
      cases e
      exact ⟨_, List.getElem?_set_self (by rw [s.len]; exact hi), trivial⟩
    · rw [List.getElem?_set_ne hj] at e
      obtain ⟨w, e1, q⟩ := s.at_ j t e
      exact ⟨w, by rw [List.getElem?_set_ne hj]; exact e1, q⟩
  sep := fun j k t u p e1 e2 o1 o2 e3 e4 => by
    have no : ∀ {m : Nat} {t : Sl}, (δ.set i .u)[m]? = some t → t.own = true → i ≠ m := fun {m t} q o z => by
      subst z
      have hi : i < δ.length := by
        have := (List.getElem?_eq_some_iff.mp q).1
        rwa [List.length_set] at this
      rw [List.getElem?_set_self hi] at q
      cases q; cases o
    have nj := no e1 o1
    have nk := no e2 o2
    rw [List.getElem?_set_ne nj] at e1 e3
    rw [List.getElem?_set_ne nk] at e2 e4
    exact s.sep j k t u p e1 e2 o1 o2 e3 e4
theorem StOk.wipe {δ : List Sl} {σ : L2.St} {E0 Kn H : Hp} {n : Gh} (s : StOk K δ σ E0 Kn H n) : ∀ vs : List Nat, StOk K (wipeD δ vs) (wipe σ vs) E0 Kn H n
  | [] => s
  | v :: vs => (s.wipe vs).setU v none
/-- the turns of a comprehension: I by the turn, the draws, the list so far -/
def wLc (wi : WI) (wg : WG) (wt : WT) (we : WD) (vs : List Nat) : WD := fun δ n P PX => wi δ n (fun n1 ds => ds.length ≤ sizeLine ∧ ∃ I : Nat → Gh → List D → Prop, I 0 n1 [] ∧
  (∀ i m acc d, ds[i]? = some d → acc.length ≤ i → I i m acc → wg d (wipeD δ vs) fun δ2 => wt δ2 m (fun m2 b => (b = true → we δ2 m2 (fun m3 r => ∃ y, r.dat = some y ∧ I (i + 1) m3 (acc ++ [y])) PXF) ∧ (b = false → I (i + 1) m2 acc)) PXF) ∧
  (∀ m acc, I ds.length m acc → P m (.n acc))) PX
theorem Gr.put {Kn H Kn' H' : Hp} {n : Gh} {p : Addr} {o : HO} (g : Gr Kn H Kn' H' n) (h0 : H p = none) (h1 : Kn' p = none) : Gr Kn H Kn' (upd H' p o) n where
  kk := g.kk
  hh := fun a u h => by
    rw [upd_ne (ne_of_none h h0)]
    exact g.hh a u h
  ha := fun a h => by
    by_cases e : a = p
    · subst e; exact h0
    · rw [upd_ne e] at h; exact g.ha a h
  kh := fun a u h => by
    have e := ne_of_none h h1
    rcases g.kh a u h with ⟨z, q1⟩ | ⟨z, q1⟩
    · exact .inl ⟨z, q1.same fun v y => by rw [upd_ne e]; exact y⟩
    · exact .inr ⟨z, by rw [upd_ne e]; exact q1⟩
  nw := g.nw
theorem Gr.un {Kn H Kn' H' : Hp} {n : Gh} {p : Addr} {vs : List V} (g : Gr Kn H Kn' H' n) (h1 : Kn p = none) (h : H p = some (.lst vs)) : Kn' p = none ∧ H' p = some (.lst vs) := by
  have h2 := g.stays (fun u z => by rw [h1] at z; cases z) h
  refine ⟨?_, h2⟩
  cases q : Kn' p with
  | none => rfl
  | some u =>
    rcases g.nw p u q h1 with z | ⟨ys, z⟩
    · rw [h] at z; cases z
    · subst z
      have z2 := g.kh.of q rfl
      rw [h2] at z2; cases z2
theorem wipe_at {σ : L2.St} {j : Nat} : ∀ {vs : List Nat}, j ∉ vs → (wipe σ vs)[j]? = σ[j]?
  | [], _ => rfl
  | v :: vs, h => by
    unfold wipe
    rw [List.getElem?_set_ne (fun z => h (by rw [z]; exact List.mem_cons_self)), wipe_at (fun z => h (List.mem_cons_of_mem _ z))]
theorem wipe_in {σ : L2.St} {j : Nat} (hj : j < σ.length) : ∀ {vs : List Nat}, j ∈ vs → (wipe σ vs)[j]? = some none
  | v :: vs, h => by
    unfold wipe
    by_cases e : v = j
    · subst e
      rw [List.getElem?_set_self (by rw [wipe_length]; exact hj)]
    · rw [List.getElem?_set_ne e]
      rcases List.mem_cons.mp h with z | z
      · exact absurd z.symm e
      · exact wipe_in hj z
theorem wipe_keep {σ σ2 : L2.St} {is vs : List Nat} (h : Keep is (wipe σ vs) σ2) (hs : ∀ i ∈ is, i ∈ vs) : wipe σ2 vs = wipe σ vs := by
  apply List.ext_getElem?
  intro j
  have hl : σ2.length = σ.length := by rw [h.1, wipe_length]
  by_cases hj : j ∈ vs
  · by_cases hb : j < σ.length
    · rw [wipe_in (by omega) hj, wipe_in hb hj]
    · rw [List.getElem?_eq_none (by rw [wipe_length]; omega), List.getElem?_eq_none (by rw [wipe_length]; omega)]
  · rw [wipe_at hj, h.2 j (fun z => hj (hs j z))]
structure PTD (X : Cx) (ifs : List Expr) (w : WT) : Prop where
  h : (ifs = [] ∧ w = fun _ n P _ => P n true) ∨ ∃ c, ifs = [c] ∧ TD X EF c w
theorem ptd_nil : PTD X [] (fun _ n P _ => P n true) := ⟨.inl ⟨rfl, rfl⟩⟩
theorem ptd_one {w : WT} (h : TD X EF c w) : PTD X [c] w := ⟨.inr ⟨c, rfl, h⟩⟩
theorem PTD.pts {ifs : List Expr} {w : WT} (h : PTD X ifs w) : PTs X ifs (ttOf X.K EF w) := by
  rcases h.h with ⟨rfl, rfl⟩ | ⟨c, rfl, h3⟩
  · refine ⟨fun pins s σ H Q I q => ?_⟩
    obtain ⟨δ, n, P, PX, E0, Kn, st, hw, k, x⟩ := q
    exact pts_nil.run pins s σ H Q I (k n true Kn H (Gr.refl st.kno) hw)
  · exact pts_one h3.pt
theorem ev_lc {wi : WI} {ti : TI} {is : List Nat} {wg : WG} {wt : WT} {we : WD} {vs : List Nat} (hs : ∀ i ∈ is, i ∈ vs)
    (hi : ∀ δ n P PX, wi δ n P PX → ∀ σ E0 Kn H, StOk K δ σ E0 Kn H n → ∀ R : It → Hp → Prop, (∀ n' ds J Kn' H', Gr Kn H Kn' H' n' → P n' ds → WalkD K J Kn' ds → R J H') → ExOk K E δ PX σ Kn H → ti σ H R)
    (δ : List Sl) (n : Gh) (P : Gh → Rs → Prop) (PX : PXT) (w : wLc wi wg wt we vs δ n P PX) : EvD K E δ n (tLc ti (tgOf K is wg) (ttOf K EF wt) (teOf K EF we) vs) P PX := by
  intro σ E0 Kn H s Q k x
  refine hi δ n _ PX w σ E0 Kn H s _ (fun n1 ds J K1 H1 g1 p wk => ?_) x
  obtain ⟨hz, I, i0, turn, done⟩ := p
  intro Da hD
  refine ⟨fun i m H' => m = ds.length - i ∧ i ≤ ds.length ∧ ∃ K2 n2 acc avs, Gr K1 H1 K2 H' n2 ∧ K2 Da = none ∧ H' Da = some (.lst avs) ∧ Dts K K2 acc avs ∧ acc.length ≤ i ∧ I i n2 acc,
    ⟨ds.length, rfl, Nat.zero_le _, K1, n1, [], [], (Gr.refl g1.kh).put hD (g1.kh.free hD), g1.kh.free hD, upd_same, rfl, Nat.le_refl _, i0⟩, ?_⟩
  rintro i m H' ⟨rfl, hi, K2, n2, acc, avs, g2, kD, hDl, hd, hl, inv⟩
  have g12 := g1.trans g2
  by_cases hlt : i < ds.length
  · refine .inr ⟨wk.go i K2 H' n2 g2.kk g2.kh hlt, fun H'' => ∃ K3 n3 acc' avs', Gr K1 H1 K3 H'' n3 ∧ K3 Da = none ∧ H'' Da = some (.lst avs') ∧ Dts K K3 acc' avs' ∧ acc'.length ≤ i + 1 ∧ I (i + 1) n3 acc',
      fun H'' z => ⟨ds.length - (i + 1), by omega, rfl, hlt, z⟩, fun v H3 y => ?_⟩
    obtain ⟨K3, d, g3, ed, hv⟩ := wk.yld i K2 H' n2 v H3 g2.kk g2.kh hlt y
    have g13 := g12.trans g3
    have sw := (s.gr g13).wipe vs
    refine ⟨d, wipeD δ vs, _, E0, K3, n2, sw, hv, turn i n2 acc d ed hl inv, fun δ2 σ2 s2 kp w2 => ⟨wipe_keep kp hs, ?_⟩⟩
    refine ⟨δ2, n2, _, PXF, E0, K3, s2, w2, fun n3 b K4 H4 g4 p4 => ?_, fun _ _ _ _ _ _ _ z => z.elim⟩
    have g34 := g3.trans g4
    obtain ⟨q1, q2⟩ := g34.un kD hDl
    cases b with
    | true =>
      refine iteT ?_
      refine ⟨δ2, n3, _, PXF, E0, K4, s2.gr g4, p4.1 rfl, fun n5 r v5 K5 H5 g5 p5 r5 => ?_, fun _ _ _ _ _ _ _ z => z.elim⟩
      obtain ⟨y5, e5, p5⟩ := p5
      obtain ⟨K6, g6, sm, h6, k6⟩ := Rep.dat g5 r5 e5
      obtain ⟨z1, z2⟩ := g5.un q1 q2
      have kD6 : K6 Da = none := by rw [k6 Da (by rw [q2]; exact fun z => by cases z)]; exact z1
      exact ⟨avs, z2, by have := hd.length; omega, K6, n5, acc ++ [y5], avs ++ [v5], ((g2.trans g34).trans g6).put hD kD6, kD6, upd_same, (Dts.mono (g34.trans g6).kk _ _ hd).append (Dts.one h6), by rw [List.length_append]; exact Nat.succ_le_succ hl, p5⟩
    | false =>
      refine iteF ?_
      exact ⟨K4, n3, acc, avs, g2.trans g34, q1, q2, Dts.mono g34.kk _ _ hd, Nat.le_succ_of_le hl, p4.2 rfl⟩
  · have e : i = ds.length := by omega
    subst e
    refine .inl ⟨wk.stop _ K2 H' n2 g2.kk g2.kh (Nat.le_refl _), k n2 _ _ K2 H' g12 (done n2 acc inv) ⟨Da, avs, rfl, g1.ha Da hD, kD, hDl, hd⟩⟩
theorem pd_lc {elt iter : Expr} {ifs : List Expr} {scope : Scope} {own : List (PySem.Str × Nat)} {wi : WI} {is : List Nat} {wg : WG} {wt : WT} {we : WD} (hc : X.calm = true) (hN : X.N.Nodup) (hi : ID X E tg iter wi) (ok : BlkOk X.N X.env.scope scope own)
    (hg : ∀ (s : Shared) (H : Hp) (C : Addr) (cl : List (PySem.Str × Addr)) (fp : List Addr), GD (X.blk s H scope (compEnvC scope cl C X.env) fp) tg is wg)
    (ht : ∀ (s : Shared) (H : Hp) (C : Addr) (cl : List (PySem.Str × Addr)) (fp : List Addr), PTD (X.blk s H scope (compEnvC scope cl C X.env) fp) ifs wt)
    (he : ∀ (s : Shared) (H : Hp) (C : Addr) (cl : List (PySem.Str × Addr)) (fp : List Addr), PD (X.blk s H scope (compEnvC scope cl C X.env) fp) EF elt we)
    (his : ∀ i ∈ is, i ∈ own.map (·.2) := by decide) (hs : ∀ x, foldedSetIterable iter X.env x = pure x := by intro _; rfl) : PD X E (.ListComp elt [⟨tg, iter, ifs, 0⟩] scope pos) (wLc wi wg wt we (own.map (·.2))) := by
  obtain ⟨ti, h1, h2⟩ := hi
  exact ⟨_, pe_lc (g := tgOf X.K is wg) (tt := ttOf X.K EF wt) (te := teOf X.K EF we) hc hN h1 ok (fun s H C cl fp => (hg s H C cl fp).pg) (fun s H C cl fp => (ht s H C cl fp).pts) (fun s H C cl fp => (he s H C cl fp).pe) hs, ev_lc his h2⟩

/-! ### attributes of instances that never change -/
def wFld (C : Addr) (f : PySem.Str) (w : WD) : WD := fun δ n P PX => w δ n (fun n1 r => ∃ fs x, r = .d (.obj C fs) ∧ fs.lookup f = some x ∧ P n1 (.d x)) PX
theorem Dfs.look {Kn : Hp} {f : PySem.Str} {x : D} : ∀ {fs : List (PySem.Str × D)} {ws : List (PySem.Str × V)}, Dfs K Kn fs ws → fs.lookup f = some x → ∃ v, ws.lookup f = some v ∧ Dt K Kn x v
  | [], ws, h, e => by cases e
  | (g, d) :: r, ws, h, e => by
    obtain ⟨v, q, rfl, h1, h2⟩ := h
    rw [List.lookup_cons] at *
    cases b : f == g with
    | true =>
      rw [b] at e
      cases e
      exact ⟨v, rfl, h1⟩
    | false =>
      rw [b] at e
      exact Dfs.look h2 e
theorem pd_fld {C : Addr} {f : PySem.Str} {w : WD} (c1 : Cls X.K C) (c2 : NoAttr X.K C f) (h : PD X E e w) (hb : attributeBase e f X.env (eval e X.env) = eval e X.env := by rfl) : PD X E (.Attribute e f pos) (wFld C f w) := by
  obtain ⟨te, h1, h2⟩ := h
  refine ⟨_, pe_fld h1 hb, fun δ n P PX w σ E0 Kn H s Q k x => ?_⟩
  refine h2 δ n _ PX w σ E0 Kn H s _ (fun n1 r v K1 H1 g1 p rp => ?_) x
  obtain ⟨fs, y, rfl, l, p⟩ := p
  obtain ⟨a, dx, ws, rfl, h3, h4⟩ := rp
  obtain ⟨v, l2, hv⟩ := Dfs.look h4 l
  exact ⟨a, C, dx, ws, v, rfl, g1.kh.of h3 rfl, c1, c2, l2, k n1 _ v K1 H1 g1 p hv⟩
end
end DL
/-! The data layer, part f: statements. -/
namespace DL
open PySem PySem.Spec PyProof.Rows L2

/-- what is wanted behind a statement -/
structure Po where
  nx : List Sl → Gh → Prop
  rt : Gh → Rs → Prop
  bk : List Sl → Gh → Prop := fun _ _ => False
  ct : List Sl → Gh → Prop := fun _ _ => False
  px : PXT
abbrev WS := List Sl → Gh → Po → Prop
/-- the ends meet what is wanted; Ks: what was known ahead; K0, E0: at the def's entry -/
structure EOk (K : PySem.W.Frag) (E : WX) (Ks K0 E0 : Hp) (po : Po) (Dn : Ends) : Prop where
  nx : ∀ δ n σ Kn H, StOk K δ σ E0 Kn H n → Gr K0 E0 Kn H n → Same Ks Kn → po.nx δ n → Dn.nx σ H
  rt : ∀ n r v σ Kn H, Gr K0 E0 Kn H n → (∀ i, r ≠ .b i) → po.rt n r → Rep K E0 Kn H σ r v → Dn.rt v H
  bk : ∀ δ n σ Kn H, StOk K δ σ E0 Kn H n → Gr K0 E0 Kn H n → Same Ks Kn → po.bk δ n → Dn.bk σ H
  ct : ∀ δ n σ Kn H, StOk K δ σ E0 Kn H n → Gr K0 E0 Kn H n → Same Ks Kn → po.ct δ n → Dn.ct σ H
  ex : ∀ δ n cls fs d σ Kn H, StOk K δ σ E0 Kn H n → Gr K0 E0 Kn H n → Same Ks Kn → po.px δ n cls fs → ExRep K Kn H d fs → E cls d σ H
def EvS (K : PySem.W.Frag) (E : WX) (δ : List Sl) (n : Gh) (ts : TS) (po : Po) : Prop :=
  ∀ σ K0 E0 Kn H, StOk K δ σ E0 Kn H n → Gr K0 E0 Kn H n → ∀ Dn, EOk K E Kn K0 E0 po Dn → ts Dn σ H
def SD (X : Cx) (E : WX) (st : Stmt) (w : WS) : Prop := ∃ ts, PS X st ts ∧ ∀ δ n po, w δ n po → EvS X.K E δ n ts po
def Sds (X : Cx) (E : WX) (sts : List Stmt) (w : WS) : Prop := ∃ ts, PSs X sts ts ∧ ∀ δ n po, w δ n po → EvS X.K E δ n ts po
section
variable {X : Cx} {E : WX} {e a b c tg : Expr} {es : List Expr} {st : Stmt} {sts : List Stmt} {pos p apos : Pos} {K : PySem.W.Frag}
theorem EOk.later {Ks Ks' K0 E0 : Hp} {po : Po} {Dn : Ends} (h : EOk K E Ks K0 E0 po Dn) (s : Same Ks Ks') : EOk K E Ks' K0 E0 po Dn :=
  ⟨fun δ n σ Kn H a b c d => h.nx δ n σ Kn H a b (s.trans c) d, h.rt, fun δ n σ Kn H a b c d => h.bk δ n σ Kn H a b (s.trans c) d, fun δ n σ Kn H a b c d => h.ct δ n σ Kn H a b (s.trans c) d, fun δ n cls fs d σ Kn H a b c e f => h.ex δ n cls fs d σ Kn H a b (s.trans c) e f⟩
theorem EOk.exOk {Kn K0 E0 H : Hp} {po : Po} {Dn : Ends} {δ : List Sl} {σ : L2.St} {n : Gh} (h : EOk K E Kn K0 E0 po Dn) (s : StOk K δ σ E0 Kn H n) (g0 : Gr K0 E0 Kn H n) : ExOk K E δ po.px σ Kn H :=
  fun n' cls fs d Kn' H' g p r => h.ex δ n' cls fs d σ Kn' H' (s.gr g) (g0.trans g) g.kk p r

def wEnd : WS := fun δ n po => po.nx δ n
def wSeq (w1 w2 : WS) : WS := fun δ n po => w1 δ n { po with nx := fun δ' n' => w2 δ' n' po }
theorem sds_nil : Sds X E [] wEnd := ⟨_, pss_nil, fun δ n po w σ K0 E0 Kn H s g Dn k => k.nx δ n σ Kn H s g (Same.refl _) w⟩
theorem sds_cons {w1 w2 : WS} (h1 : SD X E st w1) (h2 : Sds X E sts w2) : Sds X E (st :: sts) (wSeq w1 w2) := by
  obtain ⟨t1, p1, q1⟩ := h1
  obtain ⟨t2, p2, q2⟩ := h2
  refine ⟨_, pss_cons p1 p2, fun δ n po w σ K0 E0 Kn H s g Dn k => ?_⟩
  exact q1 δ n _ w σ K0 E0 Kn H s g _ ⟨fun δ' n' σ' Kn' H' s' g' sm w' => q2 δ' n' po w' σ' K0 E0 Kn' H' s' g' Dn (k.later sm), k.rt, k.bk, k.ct, k.ex⟩
theorem sds_one {w : WS} (h : SD X E st w) : Sds X E [st] w := let ⟨t, h1, h2⟩ := h; ⟨t, pss_one h1, h2⟩
theorem sd_pass : SD X E (.Pass pos) wEnd := ⟨_, ps_pass, fun δ n po w σ K0 E0 Kn H s g Dn k => k.nx δ n σ Kn H s g (Same.refl _) w⟩
def wBrk : WS := fun δ n po => po.bk δ n
def wCnt : WS := fun δ n po => po.ct δ n
theorem sd_break : SD X E (.Break pos) wBrk := ⟨_, ps_break, fun δ n po w σ K0 E0 Kn H s g Dn k => k.bk δ n σ Kn H s g (Same.refl _) w⟩
theorem sd_continue : SD X E (.Continue pos) wCnt := ⟨_, ps_continue, fun δ n po w σ K0 E0 Kn H s g Dn k => k.ct δ n σ Kn H s g (Same.refl _) w⟩
/-- code that is never come to -/
def wNever : WS := fun _ _ _ => False
theorem sd_never : SD X E st wNever := ⟨_, ps_never, fun δ n po w => w.elim⟩
theorem sds_never : Sds X E sts wNever := ⟨_, pss_never, fun δ n po w => w.elim⟩
/-- a slot's own list is a datum from now on -/
def wFrz (i : Nat) (w : WS) : WS := fun δ n po => ∃ xs, δ[i]? = some (.l xs) ∧ w (δ.set i (.d (.lst xs))) n po
theorem sds_frz (i : Nat) {w : WS} (h : Sds X E sts w) : Sds X E sts (wFrz i w) := by
  obtain ⟨t, h1, h2⟩ := h
  refine ⟨t, h1, fun δ n po w σ K0 E0 Kn H s g Dn k => ?_⟩
  obtain ⟨xs, e, w⟩ := w
  obtain ⟨q, vs, s', e0, hq, kq⟩ := s.freeze e
  refine h2 _ n po w σ K0 E0 _ H s' (g.learn e0 hq kq rfl) Dn (k.later fun a o z => ?_)
  rw [upd_ne (ne_of_none z kq)]; exact z
def wDrop (we : WD) : WS := fun δ n po => we δ n (fun n' _ => po.nx δ n') po.px
theorem sd_expr {we : WD} (h : PD X E e we) (hs : swapsWith e none pos.line X.env = pure false := by rfl) : SD X E (.Expr e pos) (wDrop we) := by
  obtain ⟨t, h1, h2⟩ := h
  refine ⟨_, ps_expr h1 hs, fun δ n po w σ K0 E0 Kn H s g Dn k => ?_⟩
  exact h2 δ n _ po.px w σ E0 Kn H s _ (fun n1 r v K1 H1 g1 p _ => k.nx δ n1 σ K1 H1 (s.gr g1) (g.trans g1) g1.kk p) (k.exOk s g)
/-- name = e -/
def put (δ : List Sl) (i : Nat) : Rs → Option (List Sl)
  | .d x => some (δ.set i (.d x))
  | .n xs => some (δ.set i (.l xs))
  | .b _ => none
def wSet (i : Nat) (we : WD) : WS := fun δ n po => we δ n (fun n' r => ∃ δ', put δ i r = some δ' ∧ po.nx δ' n') po.px
theorem StOk.put {δ δ' : List Sl} {σ : L2.St} {E0 Kn H Kn' H' : Hp} {n n' : Gh} {r : Rs} {v : V} {i : Nat} (s : StOk K δ σ E0 Kn H n) (g : Gr Kn H Kn' H' n') (h : Rep K H Kn' H' σ r v) (e : DL.put δ i r = some δ') : StOk K δ' (σ.set i (some v)) E0 Kn' H' n' := by
  cases r with
  | d x =>
    cases e
    exact (s.gr g).setD i h
  | n xs =>
    cases e
    obtain ⟨q, vs, rfl, h0, h1, h2, h3⟩ := h
    refine (s.gr g).setL i h1 (s.dom q h0) h2 h3 fun j t e1 o e2 => ?_
    cases t with
    | u => cases o
    | d x => cases o
    | l ys =>
      obtain ⟨q', ws, f1, _, _, f2, _⟩ := s.list e1
      rw [e2] at f1
      cases f1
      rw [h0] at f2; cases f2
  | b j => cases e
theorem ev_set {te : TE} {we : WD} {i : Nat} (h2 : ∀ δ n P PX, we δ n P PX → EvD K E δ n te P PX) (δ : List Sl) (n : Gh) (po : Po) (w : wSet i we δ n po) : EvS K E δ n (tAsg te (gName i)) po := by
  intro σ K0 E0 Kn H s g Dn k
  refine h2 δ n _ po.px w σ E0 Kn H s _ (fun n1 r v K1 H1 g1 p rp => ?_) (k.exOk s g)
  obtain ⟨δ', e, p⟩ := p
  exact k.nx δ' n1 _ K1 H1 (s.put g1 rp e) (g.trans g1) g1.kk p
theorem sd_set {i : Nat} {x : PySem.Str} {pos' : Pos} {we : WD} (hN : X.N.Nodup) (hi : X.N[i]? = some x) (hx : Loc X.env.scope x) (h : PD X E e we) (hs : swapsWith e (some (.Name x pos')) pos.line X.env = pure false := by rfl)
    (hf : X.fn x = true ∨ X.env.scope.names.lookup x = some .local := by first | exact .inl rfl | exact .inr rfl | assumption) : SD X E (.Assign [.Name x pos'] e pos) (wSet i we) := by
  obtain ⟨t, h1, h2⟩ := h
  exact ⟨_, ps_set hN hi hx h1 hs hf, ev_set h2⟩
theorem sd_setLc {i : Nat} {y : PySem.Str} {py : Pos} {elt iter : Expr} {ifs : List Expr} {scope : Scope} {own : List (PySem.Str × Nat)} {spos : Pos} {wi : WI} {is : List Nat} {wg : WG} {wt : WT} {we : WD} (hc : X.calm = true) (hN : X.N.Nodup) (hy : X.N[i]? = some y)
    (hyl : X.env.scope.names.lookup y = some .local) (hsw : swapsWith (.ListComp elt [⟨tg, iter, ifs, 0⟩] scope pos) (some (.Name y py)) spos.line X.env = pure true) (hi : ID X E tg iter wi) (ok : BlkOk X.N X.env.scope scope own)
    (hg : ∀ (s : Shared) (H : Hp) (C : Addr) (cl : List (PySem.Str × Addr)) (fp : List Addr), GD (X.blk s H scope (compEnvC scope cl C X.env) fp) tg is wg)
    (ht : ∀ (s : Shared) (H : Hp) (C : Addr) (cl : List (PySem.Str × Addr)) (fp : List Addr), PTD (X.blk s H scope (compEnvC scope cl C X.env) fp) ifs wt)
    (he : ∀ (s : Shared) (H : Hp) (C : Addr) (cl : List (PySem.Str × Addr)) (fp : List Addr), PD (X.blk s H scope (compEnvC scope cl C X.env) fp) EF elt we)
    (his : ∀ i ∈ is, i ∈ own.map (·.2) := by decide) (hs : ∀ x, foldedSetIterable iter X.env x = pure x := by intro _; rfl) :
    SD X E (.Assign [.Name y py] (.ListComp elt [⟨tg, iter, ifs, 0⟩] scope pos) spos) (wSet i (wLc wi wg wt we (own.map (·.2)))) := by
  obtain ⟨ti, h1, h2⟩ := hi
  exact ⟨_, ps_setLc (g := tgOf X.K is wg) (tt := ttOf X.K EF wt) (te := teOf X.K EF we) hc hN hy hyl hsw h1 ok (fun s H C cl fp => (hg s H C cl fp).pg) (fun s H C cl fp => (ht s H C cl fp).pts) (fun s H C cl fp => (he s H C cl fp).pe) hs, ev_set (ev_lc his h2)⟩
/-- a target that is no plain name -/
def wAsg (we : WD) (wg : WG) : WS := fun δ n po => we δ n (fun n' r => ∃ x, r.dat = some x ∧ wg x δ fun δ' => po.nx δ' n') po.px
theorem sd_asg {is : List Nat} {we : WD} {wg : WG} (he : PD X E e we) (hg : GD X tg is wg) (hs : swapsWithSole [tg] e pos.line X.env = pure false := by rfl) (hw : swappedStores [tg] e X.env = pure none := by rfl)
    (h1 : (assignEach [tg] X.env).map (·.2) = [assign tg X.env] := by rfl) : SD X E (.Assign [tg] e pos) (wAsg we wg) := by
  obtain ⟨t, p1, p2⟩ := he
  obtain ⟨gt, q1, q2⟩ := hg
  refine ⟨_, ps_asg p1 q1 hs hw h1, fun δ n po w σ K0 E0 Kn H s g Dn k => ?_⟩
  refine p2 δ n _ po.px w σ E0 Kn H s _ (fun n1 r v K1 H1 g1 p rp => ?_) (k.exOk s g)
  obtain ⟨x, e, p⟩ := p
  obtain ⟨K2, g2, sm, hd, _⟩ := rp.dat g1 e
  exact q2 x δ _ p σ E0 K2 H1 n1 v (s.gr g2) hd _ fun δ' σ' s' _ w' => k.nx δ' n1 σ' K2 H1 s' (g.trans g2) g2.kk w'
/-- name += an int -/
def wAugI (i : Nat) (f : Int → Int → Int) (we : WD) : WS := fun δ n po => ∃ x, δ[i]? = some (.d (.int x)) ∧ we δ n (fun n' r => ∃ y, r = .d (.int y) ∧ po.nx (δ.set i (.d (.int (f x y)))) n') po.px
theorem sd_augI {i : Nat} {x : PySem.Str} {op : Operator} {f : Int → Int → Int} {pos' : Pos} {we : WD} (hN : X.N.Nodup) (hi : X.N[i]? = some x) (hx : Loc X.env.scope x) (he : PD X E e we) (ho : PIp X op (ipI f)) (hf : X.fn x = true ∨ X.env.scope.names.lookup x = some .local := by first | exact .inl rfl | exact .inr rfl | assumption) :
    SD X E (.AugAssign (.Name x pos') op e pos) (wAugI i f we) := by
  obtain ⟨t, p1, p2⟩ := he
  refine ⟨_, ps_aug hN hi hx p1 ho hf, fun δ n po w σ K0 E0 Kn H s g Dn k => ?_⟩
  obtain ⟨z, e1, w⟩ := w
  obtain ⟨v, e2, rfl⟩ := s.datum e1
  refine ⟨.int z, e2, p2 δ n _ po.px w σ E0 Kn H s _ (fun n1 r v K1 H1 g1 p rp => ?_) (k.exOk s g)⟩
  obtain ⟨y, rfl, p⟩ := p
  obtain rfl : v = .int y := rp
  exact ⟨z, y, rfl, rfl, k.nx _ n1 _ K1 H1 ((s.gr g1).setD i (x := .int (f z y)) rfl) (g.trans g1) g1.kk p⟩
/-- return e -/
def Rs.out (δ : List Sl) : Rs → Option Rs
  | .d x => some (.d x)
  | .n xs => some (.n xs)
  | .b i => match δ[i]? with
    | some (.l xs) => some (.n xs)
    | _ => none
def wRet (we : WD) : WS := fun δ n po => we δ n (fun n' r => ∃ r', r.out δ = some r' ∧ po.rt n' r') po.px
theorem sd_ret {we : WD} (h : PD X E e we) : SD X E (.Return (some e) pos) (wRet we) := by
  obtain ⟨t, h1, h2⟩ := h
  refine ⟨_, ps_ret h1, fun δ n po w σ K0 E0 Kn H s g Dn k => ?_⟩
  refine h2 δ n _ po.px w σ E0 Kn H s _ (fun n1 r v K1 H1 g1 p rp => ?_) (k.exOk s g)
  obtain ⟨r', e, p⟩ := p
  cases r with
  | d x => cases e; exact k.rt n1 _ v σ K1 H1 (g.trans g1) (fun _ z => by cases z) p rp
  | n xs => cases e; exact k.rt n1 _ v σ K1 H1 (g.trans g1) (fun _ z => by cases z) p (rp.back s.dom)
  | b i =>
    have e : (match δ[i]? with | some (.l xs) => some (Rs.n xs) | _ => none) = some r' := e
    cases q : δ[i]? with
    | none => rw [q] at e; cases e
    | some t =>
      rw [q] at e
      cases t with
      | u => cases e
      | d x => cases e
      | l xs =>
        cases e
        obtain ⟨p', vs, f1, f2, f3, f4, f5⟩ := (s.gr g1).list q
        have rp : σ[i]? = some (some v) := rp
        rw [f1] at rp
        cases rp
        exact k.rt n1 _ _ σ K1 H1 (g.trans g1) (fun _ z => by cases z) p ⟨p', vs, rfl, f3, f2, f4, f5⟩
def wRetN : WS := fun _ n po => po.rt n (.d .non)
theorem sd_retN : SD X E (.Return none pos) wRetN := ⟨_, ps_retN, fun δ n po w σ K0 E0 Kn H s g Dn k => k.rt n _ .non σ Kn H g (fun _ z => by cases z) w rfl⟩
def wIfS (wc : WT) (w1 w2 : WS) : WS := fun δ n po => wc δ n (fun n' b => (b = true → w1 δ n' po) ∧ (b = false → w2 δ n' po)) po.px
theorem sd_if {xs ys : List Stmt} {wc : WT} {w1 w2 : WS} (hc : TD X E c wc) (h1 : Sds X E xs w1) (h2 : Sds X E ys w2) : SD X E (.If c xs ys pos) (wIfS wc w1 w2) := by
  obtain ⟨tc, c1, c2⟩ := hc
  obtain ⟨t1, p1, q1⟩ := h1
  obtain ⟨t2, p2, q2⟩ := h2
  refine ⟨_, ps_if c1 p1 p2, fun δ n po w σ K0 E0 Kn H s g Dn k => ?_⟩
  refine c2 δ n _ po.px w σ E0 Kn H s _ (fun n1 r K1 H1 g1 p => ?_) (k.exOk s g)
  cases r with
  | true => exact iteT (q1 δ n1 po (p.1 rfl) σ K0 E0 K1 H1 (s.gr g1) (g.trans g1) Dn (k.later g1.kk))
  | false => exact iteF (q2 δ n1 po (p.2 rfl) σ K0 E0 K1 H1 (s.gr g1) (g.trans g1) Dn (k.later g1.kk))
/-- x.append(e), x an own list -/
def wApp (i : Nat) (we : WD) : WS := fun δ n po => ∃ xs, δ[i]? = some (.l xs) ∧ we δ n (fun n' r => ∃ y, r.dat = some y ∧ xs.length < sizeLine ∧ po.nx (δ.set i (.l (xs ++ [y]))) n') po.px
theorem sd_app (i : Nat) {x : PySem.Str} {pn p1 p2 p3 : Pos} {we : WD} (he : PD X E e we) (hN : X.N[i]? = some x := by rfl) (hv : Vis X.env.scope x := by first | exact Or.inl rfl | exact Or.inr (Or.inl rfl) | exact Or.inr (Or.inr rfl)) (hd : (x == ("__debug__" : PySem.Str)) = false := by decide)
    (hcd : (x == ("__classdict__" : PySem.Str)) = false := by decide)
    (hbase : attributeBase (.Name x pn) "append" X.env (eval (.Name x pn) X.env) = eval (.Name x pn) X.env := by rfl) (hs : starEach [e] X.env = (false, eval e X.env) :: starEach [] X.env := by rfl)
    (hfew : ((backTo p2 (starEach [e] X.env)).all (fun x => !x.1) && (backToKw p2 (keywordEach [] X.env)).all (fun x => x.1.isSome) && decide ([e].length + ([] : List Keyword).length + (if ([] : List Keyword).isEmpty then 0 else 1) < 30)) = true := by rfl)
    (hline : (p1.endLine == p2.line) = true := by rfl) (hplain : (backTo p2 (starEach [] X.env)).any (·.1) = false := by rfl)
    (hsw : swapsWith (.Call (.Attribute (.Name x pn) "append" p1) [e] [] p2) none p3.line X.env = pure false := by rfl) : SD X E (.Expr (.Call (.Attribute (.Name x pn) "append" p1) [e] [] p2) p3) (wApp i we) := by
  obtain ⟨t, h1, h2⟩ := he
  refine ⟨_, ps_expr (pe_bm PySem.F.plainAttrs_list PySem.F.slot_list_append PySem.F.type_list_append mt_append (pe_var (i := i) hN hv hd hcd) (pa_cons h1 pa_nil hs) hbase hfew hline hs hplain) hsw, fun δ n po w σ K0 E0 Kn H s g Dn k => ?_⟩
  obtain ⟨xs, e1, w⟩ := w
  obtain ⟨q, vs, f1, f2, f3, f4, f5⟩ := s.list e1
  refine ⟨_, f1, .inl ⟨rfl, _, SqL.of f4⟩, h2 δ n _ po.px w σ E0 Kn H s _ (fun n1 r v K1 H1 g1 p rp => ?_) (k.exOk s g)⟩
  obtain ⟨y, e2, hz, p⟩ := p
  obtain ⟨K2, g2, sm, hd, hk⟩ := rp.dat g1 e2
  obtain ⟨z1, z2⟩ := g2.un f2 f4
  have hdd := (Dts.mono g2.kk _ _ f5).append (Dts.one hd)
  have s2 := (s.gr g2).write e1 f1 hdd
  have el := f5.length
  exact ⟨q, vs, v, rfl, rfl, z2, by omega, k.nx _ n1 σ K2 _ s2 ((g.trans g2).put f3 z1) g2.kk p⟩
/-- x.extend(e) -/
def wExt (i : Nat) (we : WD) : WS := fun δ n po => ∃ xs, δ[i]? = some (.l xs) ∧ we δ n (fun n' r => ∃ ys, vw δ r = some (.lst ys) ∧ xs.length + ys.length ≤ sizeLine ∧ po.nx (δ.set i (.l (xs ++ ys))) n') po.px
theorem sd_ext (i : Nat) {x : PySem.Str} {pn p1 p2 p3 : Pos} {we : WD} (he : PD X E e we) (hN : X.N[i]? = some x := by rfl) (hv : Vis X.env.scope x := by first | exact Or.inl rfl | exact Or.inr (Or.inl rfl) | exact Or.inr (Or.inr rfl)) (hd : (x == ("__debug__" : PySem.Str)) = false := by decide)
    (hcd : (x == ("__classdict__" : PySem.Str)) = false := by decide)
    (hbase : attributeBase (.Name x pn) "extend" X.env (eval (.Name x pn) X.env) = eval (.Name x pn) X.env := by rfl) (hs : starEach [e] X.env = (false, eval e X.env) :: starEach [] X.env := by rfl)
    (hfew : ((backTo p2 (starEach [e] X.env)).all (fun x => !x.1) && (backToKw p2 (keywordEach [] X.env)).all (fun x => x.1.isSome) && decide ([e].length + ([] : List Keyword).length + (if ([] : List Keyword).isEmpty then 0 else 1) < 30)) = true := by rfl)
    (hline : (p1.endLine == p2.line) = true := by rfl) (hplain : (backTo p2 (starEach [] X.env)).any (·.1) = false := by rfl)
    (hsw : swapsWith (.Call (.Attribute (.Name x pn) "extend" p1) [e] [] p2) none p3.line X.env = pure false := by rfl) : SD X E (.Expr (.Call (.Attribute (.Name x pn) "extend" p1) [e] [] p2) p3) (wExt i we) := by
  obtain ⟨t, h1, h2⟩ := he
  refine ⟨_, ps_expr (pe_bm PySem.F.plainAttrs_list PySem.F.slot_list_extend PySem.F.type_list_extend mt_extend (pe_var (i := i) hN hv hd hcd) (pa_cons h1 pa_nil hs) hbase hfew hline hs hplain) hsw, fun δ n po w σ K0 E0 Kn H s g Dn k => ?_⟩
  obtain ⟨xs, e1, w⟩ := w
  obtain ⟨q, vs, f1, f2, f3, f4, f5⟩ := s.list e1
  refine ⟨_, f1, .inl ⟨rfl, _, SqL.of f4⟩, h2 δ n _ po.px w σ E0 Kn H s _ (fun n1 r v K1 H1 g1 p rp => ?_) (k.exOk s g)⟩
  obtain ⟨ys, e2, hz, p⟩ := p
  obtain ⟨b, ws, rfl, _, h3, h4⟩ := Rep.vw (s.gr g1) rp e2
  obtain ⟨z1, z2⟩ := g1.un f2 f4
  have hdd := (Dts.mono g1.kk _ _ f5).append h4
  have s2 := (s.gr g1).write e1 f1 hdd
  have el := f5.length
  have el2 := h4.length
  exact ⟨q, b, vs, ws, rfl, rfl, z2, h3, by omega, k.nx _ n1 σ K1 _ s2 ((g.trans g1).put f3 z1) g1.kk p⟩

/-! ### loops -/
def wFor (wi : WI) (wg : WG) (wb : WS) : WS := fun δ n po => wi δ n (fun n1 ds => ∃ I : Nat → List Sl → Gh → Prop, I 0 δ n1 ∧
  (∀ i δ' m d, ds[i]? = some d → I i δ' m → wg d δ' fun δ2 => wb δ2 m { nx := I (i + 1), ct := I (i + 1), bk := po.nx, rt := po.rt, px := po.px }) ∧ (∀ δ' m, I ds.length δ' m → po.nx δ' m)) po.px
theorem sd_for {iter : Expr} {body : List Stmt} {wi : WI} {is : List Nat} {wg : WG} {wb : WS} (hp : PassesOwn (model X.prog X.w) X.A X.env X.xe) (hc : X.calm = true) (hi : ID X E tg iter wi) (hg : GD X tg is wg) (hb : Sds X E body wb)
    (hs : ∀ x, foldedSetIterable iter X.env x = pure x := by intro _; rfl) : SD X E (.For tg iter body [] pos) (wFor wi wg wb) := by
  obtain ⟨ti, i1, i2⟩ := hi
  obtain ⟨gt, g1, g2⟩ := hg
  obtain ⟨tb, b1, b2⟩ := hb
  refine ⟨_, ps_for hp hc i1 g1 b1 hs, fun δ n po w σ K0 E0 Kn H s g Dn k => ?_⟩
  refine i2 δ n _ po.px w σ E0 Kn H s _ (fun n1 ds J K1 H1 gg p wk => ?_) (k.exOk s g)
  obtain ⟨I, i0, turn, done⟩ := p
  have k1 := k.later gg.kk
  refine ⟨fun i m σ' H' => m = ds.length - i ∧ i ≤ ds.length ∧ ∃ δ' n' Kn', StOk X.K δ' σ' E0 Kn' H' n' ∧ Gr K0 E0 Kn' H' n' ∧ Same K1 Kn' ∧ I i δ' n', ⟨ds.length, rfl, Nat.zero_le _, δ, n1, K1, s.gr gg, g.trans gg, Same.refl _, i0⟩, ?_⟩
  rintro i m σ' H' ⟨rfl, hi, δ', n', Kn', s', g', sm, inv⟩
  by_cases hlt : i < ds.length
  · refine .inr ⟨wk.go i Kn' H' n' sm s'.kno hlt, fun σ2 H2 => ∃ δ2 n2 K2, StOk X.K δ2 σ2 E0 K2 H2 n2 ∧ Gr K0 E0 K2 H2 n2 ∧ Same K1 K2 ∧ I (i + 1) δ2 n2, fun σ2 H2 z => ⟨ds.length - (i + 1), by omega, rfl, hlt, z⟩, fun v H3 y => ?_⟩
    obtain ⟨K3, d, g3, ed, hv⟩ := wk.yld i Kn' H' n' v H3 sm s'.kno hlt y
    refine g2 d δ' _ (turn i δ' n' d ed inv) σ' E0 K3 H3 n' v (s'.gr g3) hv _ fun δ2 σ2 s2 _ w2 => ?_
    have sm3 := sm.trans g3.kk
    refine b2 δ2 n' _ w2 σ2 K0 E0 K3 H3 s2 (g'.trans g3) _ ⟨fun δ4 n4 σ4 K4 H4 s4 g4 sm4 q4 => ⟨δ4, n4, K4, s4, g4, sm3.trans sm4, q4⟩, k1.rt, fun δ4 n4 σ4 K4 H4 s4 g4 sm4 q4 => k1.nx δ4 n4 σ4 K4 H4 s4 g4 (sm3.trans sm4) q4,
      fun δ4 n4 σ4 K4 H4 s4 g4 sm4 q4 => ⟨δ4, n4, K4, s4, g4, sm3.trans sm4, q4⟩, fun δ4 n4 cls fs d4 σ4 K4 H4 s4 g4 sm4 q4 r4 => k1.ex δ4 n4 cls fs d4 σ4 K4 H4 s4 g4 (sm3.trans sm4) q4 r4⟩
  · have e : i = ds.length := by omega
    subst e
    exact .inl ⟨wk.stop _ Kn' H' n' sm s'.kno (Nat.le_refl _), k1.nx δ' n' σ' Kn' H' s' g' sm (done δ' n' inv)⟩
def wWhile (wc : WT) (wb : WS) : WS := fun δ n po => ∃ I : Nat → List Sl → Gh → Prop, (∃ m, I m δ n) ∧
  ∀ k δ' m, I k δ' m → wc δ' m (fun m' b => (b = true → wb δ' m' { nx := fun δ2 m2 => ∃ k', k' < k ∧ I k' δ2 m2, ct := fun δ2 m2 => ∃ k', k' < k ∧ I k' δ2 m2, bk := po.nx, rt := po.rt, px := po.px }) ∧ (b = false → po.nx δ' m')) po.px
theorem sd_while {body : List Stmt} {wc : WT} {wb : WS} (hp : PassesOwn (model X.prog X.w) X.A X.env X.xe) (hc : TD X E c wc) (hb : Sds X E body wb) : SD X E (.While c body [] pos) (wWhile wc wb) := by
  obtain ⟨tc, c1, c2⟩ := hc
  obtain ⟨tb, b1, b2⟩ := hb
  refine ⟨_, ps_while hp c1 b1, fun δ n po w σ K0 E0 Kn H s g Dn k => ?_⟩
  obtain ⟨I, ⟨m0, i0⟩, turn⟩ := w
  refine ⟨fun m σ' H' => ∃ δ' n' Kn', StOk X.K δ' σ' E0 Kn' H' n' ∧ Gr K0 E0 Kn' H' n' ∧ Same Kn Kn' ∧ I m δ' n', ⟨m0, δ, n, Kn, s, g, Same.refl _, i0⟩, ?_⟩
  rintro m σ' H' ⟨δ', n', Kn', s', g', sm, inv⟩
  have k1 := k.later sm
  refine c2 δ' n' _ po.px (turn m δ' n' inv) σ' E0 Kn' H' s' _ (fun n1 b K1 H1 g1 p => ?_) (k1.exOk s' g')
  have k2 := k1.later g1.kk
  have sm1 := sm.trans g1.kk
  cases b with
  | true =>
    refine iteT ⟨fun σ2 H2 => ∃ m', m' < m ∧ ∃ δ2 n2 K2, StOk X.K δ2 σ2 E0 K2 H2 n2 ∧ Gr K0 E0 K2 H2 n2 ∧ Same Kn K2 ∧ I m' δ2 n2, fun σ2 H2 z => z, ?_⟩
    have nxt : ∀ δ4 n4 σ4 K4 H4, StOk X.K δ4 σ4 E0 K4 H4 n4 → Gr K0 E0 K4 H4 n4 → Same K1 K4 → (∃ k', k' < m ∧ I k' δ4 n4) → ∃ m', m' < m ∧ ∃ δ2 n2 K2, StOk X.K δ2 σ4 E0 K2 H4 n2 ∧ Gr K0 E0 K2 H4 n2 ∧ Same Kn K2 ∧ I m' δ2 n2 :=
      fun δ4 n4 σ4 K4 H4 s4 g4 sm4 ⟨k', lt, q4⟩ => ⟨k', lt, δ4, n4, K4, s4, g4, sm1.trans sm4, q4⟩
    exact b2 δ' n1 _ (p.1 rfl) σ' K0 E0 K1 H1 (s'.gr g1) (g'.trans g1) _ ⟨nxt, k2.rt, fun δ4 n4 σ4 K4 H4 s4 g4 sm4 q4 => k2.nx δ4 n4 σ4 K4 H4 s4 g4 sm4 q4, nxt, k2.ex⟩
  | false => exact iteF (k2.nx δ' n1 σ' K1 H1 (s'.gr g1) (g'.trans g1) (Same.refl _) (p.2 rfl))
end
end DL
/-! The data layer, part g: defs and calls. -/
namespace DL
open PySem PySem.Spec PyProof.Rows L2

abbrev PX0 := Gh → Value → List (PySem.Str × D) → Prop
def PXF0 : PX0 := fun _ _ _ => False
/-- what a def makes of data: the wanted end, the wanted exception -/
abbrev FW := List D → Gh → (Gh → Rs → Prop) → PX0 → Prop
def spOf (m : Nat) (K : PySem.W.Frag) (F : FW) : Sp := fun vs H Q E => vs.length = m ∧ ∃ K0 n ds R PX, Kno K0 H n ∧ Dts K K0 ds vs ∧ F ds n R PX ∧
  (∀ n' r v Kn' H', Gr K0 H Kn' H' n' → (∀ i, r ≠ .b i) → R n' r → Rep K H Kn' H' [] r v → Q v H') ∧
  (∀ n' cls fs d Kn' H', Gr K0 H Kn' H' n' → PX n' cls fs → ExRep K Kn' H' d fs → E cls d H')
theorem Rep.st {K : PySem.W.Frag} {H0 Kn H : Hp} {σ σ' : L2.St} {v : V} : ∀ {r : Rs}, (∀ i, r ≠ .b i) → Rep K H0 Kn H σ r v → Rep K H0 Kn H σ' r v
  | .d x, _, h => h
  | .n xs, _, h => h
  | .b i, ne, _ => absurd rfl (ne i)
def startD (m : Nat) (ds : List D) : List Sl := ds.map .d ++ List.replicate (m - ds.length) .u
theorem st_start {K : PySem.W.Frag} {N : List PySem.Str} {K0 H : Hp} {n : Gh} {ds : List D} {vs : List V} (k : Kno K0 H n) (h : Dts K K0 ds vs) : StOk K (startD N.length ds) (start N vs) H K0 H n := by
  have hl := h.length
  have nown : ∀ {i : Nat} {t : Sl}, (startD N.length ds)[i]? = some t → t.own = true → False := fun {i t} e o => by
    have m := List.mem_of_getElem? e
    rcases List.mem_append.mp m with m | m
    · obtain ⟨x, _, rfl⟩ := List.mem_map.mp m
      cases o
    · obtain ⟨_, rfl⟩ := List.mem_replicate.mp m
      cases o
  refine ⟨k, fun _ e => e, ?_, fun i s e => ?_, fun i j s t p e1 e2 o1 o2 => (nown e1 o1).elim⟩
  · unfold L2.start startD
    rw [List.length_append, List.length_append, List.length_map, List.length_map, List.length_replicate, List.length_replicate, hl]
  · unfold startD at e
    unfold L2.start
    by_cases hi : i < ds.length
    · rw [List.getElem?_append_left (by rw [List.length_map]; exact hi), List.getElem?_map] at e
      rw [List.getElem?_append_left (by rw [List.length_map]; omega), List.getElem?_map]
      cases q : ds[i]? with
      | none => rw [q] at e; cases e
      | some d =>
        rw [q] at e
        cases e
        obtain ⟨v, e1, h1⟩ := h.get q
        rw [e1]
        exact ⟨some v, rfl, v, rfl, h1⟩
    · rw [List.getElem?_append_right (by rw [List.length_map]; omega), List.length_map] at e
      rw [List.getElem?_append_right (by rw [List.length_map]; omega), List.length_map]
      have m := List.mem_of_getElem? e
      obtain ⟨_, rfl⟩ := List.mem_replicate.mp m
      have lt := (List.getElem?_eq_some_iff.mp e).1
      rw [List.length_replicate] at lt
      exact ⟨none, by rw [← hl, List.getElem?_replicate, if_pos lt], trivial⟩
def poOf (R : Gh → Rs → Prop) (PX : PX0) : Po := { nx := fun _ n => R n (.d .non), rt := R, px := fun _ => PX }
section
variable {P : Program} {wd : World} {K : PySem.W.Frag} {mg : PySem.Str → Option Value} {base : Heap}
theorem fun_dX {x qual : PySem.Str} {st : Stmt} {f : Addr} {fd : FuncData} {N ps : List PySem.Str} {k : Nat} {F : FW} {w : WS} (Fn : Fun K x qual st f fd) (S : FnScope N ps (defScope st))
    (hb : ∀ (cdv : Value) (A : Around) (outer : List Env) (s : Shared) (H : Hp) (E : XK), Room k (A.deeper (envOfC qual (defScope st) s.heap.objs.size f cdv)) →
      Sds (cxOf (L2.CX P wd) P wd K mg base N qual (defScope st) f cdv A outer s H E) (fun cls d _ H' => E cls d H') (defBody st) w)
    (hw : ∀ ds n R PX, ds.length = ps.length → F ds n R PX → w (startD N.length ds) n (poOf R PX)) : FnOk P wd K mg base (L2.CX P wd) (k + 1) f fd ps (spOf ps.length K F) := by
  refine Fn.okX S (fun vs H Q E h => h.1) fun cdv A outer s H vs Q E hr h => ?_
  obtain ⟨hl, K0, n, ds, R, PX, k0, hd, hF, k1, k2⟩ := h
  obtain ⟨t, h1, h2⟩ := hb cdv A outer s H E hr
  refine ⟨t, h1, h2 _ n _ (hw ds n R PX (by rw [hd.length, hl]) hF) (start N vs) K0 H K0 H (st_start k0 hd) (Gr.refl k0) _ ⟨?_, ?_, ?_, ?_, ?_⟩⟩
  · exact fun δ n σ Kn H' _ g _ q => k1 n (.d .non) .non Kn H' g (fun _ z => by cases z) q rfl
  · exact fun n r v σ Kn H' g ne q rp => k1 n r v Kn H' g ne q (rp.st ne)
  · exact fun _ _ _ _ _ _ _ _ z => z.elim
  · exact fun _ _ _ _ _ _ _ _ z => z.elim
  · exact fun δ n cls fs d σ Kn H' _ g _ q rp => k2 n cls fs d Kn H' g q rp
theorem fun_d {x qual : PySem.Str} {st : Stmt} {f : Addr} {fd : FuncData} {N ps : List PySem.Str} {k : Nat} {F : FW} {w : WS} (Fn : Fun K x qual st f fd) (S : FnScope N ps (defScope st))
    (hb : ∀ (cdv : Value) (A : Around) (outer : List Env) (s : Shared) (H : Hp) (E : XK), Room k (A.deeper (envOfC qual (defScope st) s.heap.objs.size f cdv)) →
      Sds (cxOf (L2.CX P wd) P wd K mg base N qual (defScope st) f cdv A outer s H E).nox EF (defBody st) w)
    (hw : ∀ ds n R PX, ds.length = ps.length → F ds n R PX → w (startD N.length ds) n (poOf R PXF0)) : FnOk P wd K mg base (L2.CX P wd) (k + 1) f fd ps (spOf ps.length K F) := by
  refine Fn.okX S (fun vs H Q E h => h.1) fun cdv A outer s H vs Q E hr h => ?_
  obtain ⟨hl, K0, n, ds, R, PX, k0, hd, hF, k1, k2⟩ := h
  obtain ⟨t, h1, h2⟩ := hb cdv A outer s H E hr
  refine ⟨t, h1.nox, h2 _ n _ (hw ds n R PX (by rw [hd.length, hl]) hF) (start N vs) K0 H K0 H (st_start k0 hd) (Gr.refl k0) _ ⟨?_, ?_, ?_, ?_, ?_⟩⟩
  · exact fun δ n σ Kn H' _ g _ q => k1 n (.d .non) .non Kn H' g (fun _ z => by cases z) q rfl
  · exact fun n r v σ Kn H' g ne q rp => k1 n r v Kn H' g ne q (rp.st ne)
  · exact fun _ _ _ _ _ _ _ _ z => z.elim
  · exact fun _ _ _ _ _ _ _ _ z => z.elim
  · exact fun δ n cls fs d σ Kn H' _ g _ q rp => q.elim
end

/-! ### calls -/
section
variable {X : Cx} {E : WX} {e o : Expr} {es : List Expr} {pos p apos : Pos} {K : PySem.W.Frag} {k m : Nat} {F : FW} {f : Addr} {fd : FuncData} {ps : List PySem.Str} {x : PySem.Str} {wa : WA}
/-- f(..), nothing is raised -/
def wFn (F : FW) (m : Nat) (wa : WA) : WD := fun δ n P PX => wa δ n (fun n1 as => ∃ xs, Ar.dat as = some xs ∧ xs.length = m ∧ F xs n1 P PXF0) PX
theorem ev_fn {K : PySem.W.Frag} {δ : List Sl} {n : Gh} {ta : TA} {P : Gh → Rs → Prop} {PX : PXT} (h2 : ∀ δ n P PX, wa δ n P PX → EvAs K E δ n ta P PX) (w : wFn F m wa δ n P PX) : EvD K E δ n (tCall (spOf m K F) [] E0 ta) P PX := by
  intro σ H0 Kn H s Q kk xx
  refine h2 δ n _ PX w σ H0 Kn H s _ (fun n1 as vs K1 H1 g1 q rp => ?_) xx
  obtain ⟨xs, e1, hl, q⟩ := q
  have hd := rp.dat e1
  rw [List.append_nil]
  exact ⟨by rw [← hd.length]; exact hl, K1, n1, xs, P, PXF0, g1.kh, hd, q, fun n' r v Kn' H' g ne q rp => kk n' r v Kn' H' (g1.trans g) q (Rep.back g1.ha (rp.st ne)), fun _ _ _ _ _ _ _ z => z.elim⟩
theorem pd_call (G : FnOk X.prog X.w X.K X.mg X.base (L2.CX X.prog X.w) k f fd ps (spOf m X.K F)) (hr : Room k X.A) (hg : Gl X x) (hm : X.mg x = some (.ref f)) (hk : PySem.W.keepIn X.K (.ref f) = true) (hb : Binds X.K fd ps []) (ha : AD X E (e :: es) wa)
    (hdb : (x == ("__debug__" : PySem.Str)) = false := by decide) (he : starEach (e :: es) X.env = (false, eval e X.env) :: starEach es X.env := by rfl) (hpl : (backTo pos (starEach es X.env)).any (·.1) = false := by rfl) : PD X E (.Call (.Name x p) (e :: es) [] pos) (wFn F m wa) := by
  obtain ⟨ta, h1, h2⟩ := ha
  exact ⟨_, pe_call G hr hg hm hk hb .nil passL h1 hdb he hpl, fun δ n P PX w => ev_fn h2 w⟩
/-- f(..), it may raise -/
def wFnX (F : FW) (m : Nat) (wa : WA) : WD := fun δ n P PX => wa δ n (fun n1 as => ∃ xs, Ar.dat as = some xs ∧ xs.length = m ∧ F xs n1 P (PX δ)) PX
theorem pd_callX (tk : Takes X E) (G : FnOk X.prog X.w X.K X.mg X.base (L2.CX X.prog X.w) k f fd ps (spOf m X.K F)) (hr : Room k X.A) (hg : Gl X x) (hm : X.mg x = some (.ref f)) (hk : PySem.W.keepIn X.K (.ref f) = true) (hb : Binds X.K fd ps []) (ha : AD X E (e :: es) wa)
    (hdb : (x == ("__debug__" : PySem.Str)) = false := by decide) (he : starEach (e :: es) X.env = (false, eval e X.env) :: starEach es X.env := by rfl) (hpl : (backTo pos (starEach es X.env)).any (·.1) = false := by rfl) : PD X E (.Call (.Name x p) (e :: es) [] pos) (wFnX F m wa) := by
  obtain ⟨ta, h1, h2⟩ := ha
  refine ⟨_, pe_callS G hr hg hm hk hb (passAt tk) h1 hdb he hpl, fun δ n P PX w σ H0 Kn H s Q kk xx => ?_⟩
  refine h2 δ n _ PX w σ H0 Kn H s _ (fun n1 as vs K1 H1 g1 q rp => ?_) xx
  obtain ⟨xs, e1, hl, q⟩ := q
  have hd := rp.dat e1
  exact ⟨by rw [← hd.length]; exact hl, K1, n1, xs, P, PX δ, g1.kh, hd, q, fun n' r v Kn' H' g ne q rp => kk n' r v Kn' H' (g1.trans g) q (Rep.back g1.ha (rp.st ne)), fun n' cls fs d Kn' H' g q rp => xx n' cls fs d Kn' H' (g1.trans g) q rp⟩
/-- f(..) that is lent own lists: what comes of it has nothing of them -/
def Rs.solid : Rs → Bool
  | .d x => x.solid
  | .n xs => D.solids xs
  | .b _ => false
def wFnB (F : FW) (m : Nat) (wa : WA) : WD := fun δ n P PX => wa δ n (fun n1 as => ∃ xs, vwAs δ as = some xs ∧ xs.length = m ∧ F xs n1 (fun n' r => r.solid = true ∧ P n' r) PXF0) PX
theorem RepA.lend {δ : List Sl} {σ : L2.St} {H0 Kn H : Hp} {n : Gh} (s : StOk K δ σ H0 Kn H n) : ∀ {as : List Ar} {vs : List V} {xs : List D}, RepA K Kn σ as vs → vwAs δ as = some xs →
    ∃ Kb, Same Kn Kb ∧ Kno Kb H n ∧ Dts K Kb xs vs ∧ ∀ a o, Kb a = some o → Kn a = none → ∃ us, o = .lst us ∧ H a = some (.lst us) := by
  intro as
  induction as with
  | nil =>
    intro vs xs h e
    obtain rfl : vs = [] := h
    have e : some ([] : List D) = some xs := e
    cases e
    exact ⟨Kn, Same.refl _, s.kno, rfl, fun a o h1 h2 => by rw [h1] at h2; cases h2⟩
  | cons a r ih =>
    intro vs xs h e
    cases a with
    | d x =>
      obtain ⟨v, ws, rfl, h1, h2⟩ := h
      unfold vwAs at e
      cases q : vwAs δ r with
      | none => rw [q] at e; cases e
      | some ys =>
        rw [q] at e
        cases e
        obtain ⟨Kb, b1, b2, b3, b4⟩ := ih h2 q
        exact ⟨Kb, b1, b2, ⟨v, ws, rfl, Dt.mono b1 _ _ h1, b3⟩, b4⟩
    | b i =>
      obtain ⟨v, ws, rfl, h1, h2⟩ := h
      unfold vwAs at e
      cases q0 : Sl.lst δ[i]? with
      | none =>
        have e0 : vwA δ (.b i) = none := q0
        rw [e0] at e; cases e
      | some y =>
        have e0 : vwA δ (.b i) = some y := q0
        rw [e0] at e
        cases q : vwAs δ r with
        | none => rw [q] at e; cases e
        | some ys =>
          rw [q] at e
          cases e
          obtain ⟨Kb, b1, b2, b3, b4⟩ := ih h2 q
          obtain ⟨zs, q1, rfl⟩ := Sl.lst_some q0
          obtain ⟨p, us, e1, h3, _, h4, h5⟩ := s.list q1
          rw [e1] at h1
          cases h1
          cases qb : Kb p with
          | some o =>
            obtain ⟨us', rfl, h6⟩ := b4 p o qb h3
            rw [h4] at h6
            cases h6
            exact ⟨Kb, b1, b2, ⟨_, ws, rfl, ⟨p, us, rfl, qb, Dts.mono b1 _ _ h5⟩, b3⟩, b4⟩
          | none =>
            have sm : Same Kb (upd Kb p (.lst us)) := fun a o q => by rw [upd_ne (ne_of_none q qb)]; exact q
            refine ⟨upd Kb p (.lst us), b1.trans sm, fun a o q => ?_, ⟨_, ws, rfl, ⟨p, us, rfl, upd_same, Dts.mono (b1.trans sm) _ _ h5⟩, Dts.mono sm _ _ b3⟩, fun a o q hn => ?_⟩
            · by_cases na : a = p
              · subst na
                rw [upd_same] at q; cases q
                exact .inr ⟨rfl, h4⟩
              · rw [upd_ne na] at q; exact b2 a o q
            · by_cases na : a = p
              · subst na
                rw [upd_same] at q; cases q
                exact ⟨us, rfl, h4⟩
              · rw [upd_ne na] at q; exact b4 a o q hn
/-- what was lent is given back -/
def back (Kn Kb K' : Hp) : Hp := fun a => match Kn a, Kb a with
  | none, some _ => none
  | _, _ => K' a
theorem Gr.unlend {Kn Kb H K' H' : Hp} {n : Gh} (sm : Same Kn Kb) (b4 : ∀ a o, Kb a = some o → Kn a = none → ∃ us, o = .lst us ∧ H a = some (.lst us)) (g : Gr Kb H K' H' n) : Gr Kn H (back Kn Kb K') H' n where
  kk := fun a o e => by
    show (match Kn a, Kb a with | none, some _ => none | _, _ => K' a) = some o
    rw [e]
    exact g.kk a o (sm a o e)
  hh := fun a o h => by
    rcases g.hh a o h with ⟨u, z, m⟩ | z
    · cases q : Kn a with
      | none =>
        obtain ⟨us, rfl, _⟩ := b4 a u z q
        cases m
      | some u' =>
        have e := sm a u' q
        rw [z] at e
        cases e
        exact .inl ⟨_, rfl, m⟩
    · exact .inr z
  ha := g.ha
  kh := fun a o e => by
    have e : (match Kn a, Kb a with | none, some _ => none | _, _ => K' a) = some o := e
    split at e
    · cases e
    · exact g.kh a o e
  nw := fun a o e h2 => by
    have e : (match Kn a, Kb a with | none, some _ => none | _, _ => K' a) = some o := e
    rw [h2] at e
    cases q : Kb a with
    | none =>
      rw [q] at e
      exact g.nw a o e q
    | some u => rw [q] at e; cases e
theorem back_tups {Kn Kb H K' H' : Hp} {n : Gh} (sm : Same Kn Kb) (b4 : ∀ a o, Kb a = some o → Kn a = none → ∃ us, o = .lst us ∧ H a = some (.lst us)) (g : Gr Kb H K' H' n) : Tups K' (back Kn Kb K') := by
  have key : ∀ a o, K' a = some o → (∀ us, o ≠ .lst us) → back Kn Kb K' a = some o := fun a o e ne => by
    show (match Kn a, Kb a with | none, some _ => none | _, _ => K' a) = some o
    split
    · rename_i u q1 q2
      obtain ⟨us, rfl, _⟩ := b4 a u q2 q1
      have z := g.kk a _ q2
      rw [e] at z
      cases z
      exact absurd rfl (ne us)
    · exact e
  exact fun a xs => ⟨fun h => key a _ h (fun _ z => by cases z), fun o h => key a _ h (fun _ z => by cases z)⟩
theorem pd_callB_ (G : FnOk X.prog X.w X.K X.mg X.base (L2.CX X.prog X.w) k f fd ps (spOf m X.K F)) (hr : Room k X.A) (hg : Gl X x) (hm : X.mg x = some (.ref f)) (hk : PySem.W.keepIn X.K (.ref f) = true) (hb : Binds X.K fd ps []) (ha : AD X E (e :: es) wa)
    (hdb : (x == ("__debug__" : PySem.Str)) = false := by decide) (he : starEach (e :: es) X.env = (false, eval e X.env) :: starEach es X.env := by rfl) (hpl : (backTo pos (starEach es X.env)).any (·.1) = false := by rfl) : PD X E (.Call (.Name x p) (e :: es) [] pos) (wFnB F m wa) := by
  obtain ⟨ta, h1, h2⟩ := ha
  refine ⟨_, pe_call G hr hg hm hk hb .nil passL h1 hdb he hpl, fun δ n P PX w σ H0 Kn H s Q kk xx => ?_⟩
  refine h2 δ n _ PX w σ H0 Kn H s _ (fun n1 as vs K1 H1 g1 q rp => ?_) xx
  obtain ⟨xs, e1, hl, q⟩ := q
  obtain ⟨Kb, b1, b2, b3, b4⟩ := rp.lend (s.gr g1) e1
  rw [List.append_nil]
  refine ⟨by rw [← b3.length]; exact hl, Kb, n1, xs, _, PXF0, b2, b3, q, fun n' r v Kn' H' g ne q rp => ?_, fun _ _ _ _ _ _ _ z => z.elim⟩
  obtain ⟨so, q⟩ := q
  have tp := back_tups b1 b4 g
  have g2 := g.unlend b1 b4
  refine kk n' r v _ H' (g1.trans g2) q (Rep.back (H1 := H1) g1.ha ?_)
  cases r with
  | d x => exact Dt.solid_mono tp x v so rp
  | n xs =>
    obtain ⟨p, us, rfl, z0, z1, z2, z3⟩ := rp
    refine ⟨p, us, rfl, z0, ?_, z2, Dts.solid_mono tp xs us so z3⟩
    show (match K1 p, Kb p with | none, some _ => none | _, _ => Kn' p) = none
    split
    · rfl
    · exact z1
  | b i => exact absurd rfl (ne i)
end
end DL
/-! The data layer, part h: the drawer of numbers, the words that are gone through, pop, or. -/
namespace DL
open PySem PySem.Spec PyProof.Rows L2
section
variable {X : Cx} {E : WX} {e o a b i : Expr} {es rest : List Expr} {pos p apos : Pos} {K : PySem.W.Frag}

/-- a marked thing is changed -/
theorem Gr.mut {Kn H : Hp} {n n' : Gh} {a : Addr} {u : HO} {m : HO} (k : Kno Kn H n) (hm : Kn a = some m) (im : isM m = true) (h' : MarkAt (upd H a u) a n' m)
    (oth : ∀ b o, b ≠ a → MarkAt H b n o → MarkAt (upd H a u) b n' o) : Gr Kn H Kn (upd H a u) n' where
  kk := Same.refl _
  hh := fun b o h => by
    by_cases e : b = a
    · subst e; exact .inl ⟨m, hm, im⟩
    · rw [upd_ne e]; exact .inr h
  ha := fun b h => by
    by_cases e : b = a
    · subst e; rw [upd_same] at h; cases h
    · rw [upd_ne e] at h; exact h
  kh := fun b o h => by
    by_cases e : b = a
    · subst e
      rw [hm] at h; cases h
      exact .inl ⟨im, h'⟩
    · rcases k b o h with ⟨z1, z2⟩ | ⟨z1, z2⟩
      · exact .inl ⟨z1, oth b o e z2⟩
      · exact .inr ⟨z1, by rw [upd_ne e]; exact z2⟩
  nw := fun b o h1 h2 => by rw [h1] at h2; cases h2

/-! ### the drawer -/
/-- source[j] -/
def wSrc (w : WD) (j : Nat) : WD := fun δ n P PX => w δ n (fun n1 r => r = .d .src ∧ ∀ i : Int, 0 ≤ i → (j = 1 → i < 2147483647) → (j = 2 → i ≤ n1.n) → P n1 (.d (.int i))) PX
theorem pd_src {c : Nat} {jj : Nat} {w : WD} (hc : c < 3) (h : PD X E e w) : PD X E (.Subscript e (.Constant (.int (c : Int)) jj p) pos) (wSrc w c) := by
  obtain ⟨te, h1, h2⟩ := h
  refine ⟨_, pe_ix ix_list h1 pe_int (fun _ _ => rfl), fun δ n P PX w σ H0 Kn H s Q k x => ?_⟩
  refine h2 δ n _ PX w σ H0 Kn H s _ (fun n1 r v K1 H1 g1 q rp => ?_) x
  obtain ⟨rfl, q⟩ := q
  obtain ⟨a, rfl, ha⟩ := rp
  obtain ⟨A, B, C, h3, hA, hB, hB2, hC, hC2⟩ := g1.kh.src ha
  have sq : SqL X.K H1 a [.int A, .int B, .int C] := SqL.of h3
  match c, hc with
  | 0, _ => exact ⟨a, _, _, _, rfl, rfl, sq, rfl, k n1 _ _ K1 H1 g1 (q A hA (fun z => by cases z) (fun z => by cases z)) rfl⟩
  | 1, _ => exact ⟨a, _, _, _, rfl, rfl, sq, rfl, k n1 _ _ K1 H1 g1 (q B hB (fun _ => hB2) (fun z => by cases z)) rfl⟩
  | 2, _ => exact ⟨a, _, _, _, rfl, rfl, sq, rfl, k n1 _ _ K1 H1 g1 (q C hC (fun z => by cases z) (fun _ => hC2)) rfl⟩
theorem src_write {Kn H : Hp} {n : Gh} {a : Addr} {A B C : Int} (k : Kno Kn H n) (ha : Kn a = some (.tbl #[])) (hA : 0 ≤ A) (hB : 0 ≤ B) (hB2 : B < 2147483647) (hC : 0 ≤ C) (m : Nat) (hm : n.n ≤ m) (hC2 : C ≤ m) : Gr Kn H Kn (upd H a (.lst [.int A, .int B, .int C])) { n with n := m } := by
  refine Gr.mut k ha rfl (.inl ⟨rfl, A, B, C, upd_same, hA, hB, hB2, hC, hC2⟩) fun b o e z => ?_
  rcases z with ⟨rfl, A', B', C', z1, z2, z3, z4, z5, z6⟩ | ⟨C', l, dx, i, rfl, z1, z2⟩
  · exact .inl ⟨rfl, A', B', C', by rw [upd_ne e]; exact z1, z2, z3, z4, z5, by show C' ≤ ((m : Nat) : Int); omega⟩
  · exact .inr ⟨C', l, dx, i, rfl, by rw [upd_ne e]; exact z1, z2⟩
/-- source[0] = e, source[2] = e: there may be one more draw -/
def wSrcPut (j : Nat) (ws : Nat) (we : WD) : WS := fun δ n po => δ[ws]? = some (.d .src) ∧ we δ n (fun n1 r => ∃ i : Int, r = .d (.int i) ∧ 0 ≤ i ∧ (j = 2 → i ≤ n1.n + 1) ∧ po.nx δ { n1 with n := n1.n + 1 }) po.px
theorem sd_srcPut {c : Nat} {jj : Nat} {ws : Nat} {x : PySem.Str} {pn : Pos} {we : WD} (hc : c = 0 ∨ c = 2) (he : PD X E e we) (hN : X.N[ws]? = some x := by rfl) (hv : Vis X.env.scope x := by first | exact Or.inl rfl | exact Or.inr (Or.inl rfl) | exact Or.inr (Or.inr rfl)) (hd : (x == ("__debug__" : PySem.Str)) = false := by decide)
    (hcd : (x == ("__classdict__" : PySem.Str)) = false := by decide)
    (hs : swapsWithSole [.Subscript (.Name x pn) (.Constant (.int (c : Int)) jj p) apos] e pos.line X.env = pure false := by rfl) (hw : swappedStores [.Subscript (.Name x pn) (.Constant (.int (c : Int)) jj p) apos] e X.env = pure none := by rfl)
    (h1 : (assignEach [.Subscript (.Name x pn) (.Constant (.int (c : Int)) jj p) apos] X.env).map (·.2) = [assign (.Subscript (.Name x pn) (.Constant (.int (c : Int)) jj p) apos) X.env] := by rfl) :
    SD X E (.Assign [.Subscript (.Name x pn) (.Constant (.int (c : Int)) jj p) apos] e pos) (wSrcPut c ws we) := by
  obtain ⟨te, p1, p2⟩ := he
  refine ⟨_, ps_asg p1 (pg_sub (pe_var (i := ws) hN hv hd hcd) pe_int set_list) hs hw h1, fun δ n po w σ K0 H0 Kn H s g Dn k => ?_⟩
  obtain ⟨hsl, w⟩ := w
  refine p2 δ n _ po.px w σ H0 Kn H s _ (fun n1 r v K1 H1 g1 q rp => ?_) (k.exOk s g)
  obtain ⟨i, rfl, hi, hi2, q⟩ := q
  obtain rfl : v = .int i := rp
  have s1 := s.gr g1
  obtain ⟨v, e1, a, rfl, ha⟩ := s1.datum hsl
  obtain ⟨A, B, C, h3, hA, hB, hB2, hC, hC2⟩ := g1.kh.src ha
  rcases hc with rfl | rfl
  · have gg := src_write (m := n1.n + 1) g1.kh ha hi hB hB2 hC (by omega) (by omega)
    exact ⟨_, e1, a, _, _, 0, rfl, rfl, h3, rfl, k.nx _ _ σ K1 _ (s1.gr gg) ((g.trans g1).trans gg) g1.kk q⟩
  · have hi3 := hi2 rfl
    have gg := src_write (m := n1.n + 1) g1.kh ha hA hB hB2 hi (by omega) (by omega)
    exact ⟨_, e1, a, _, _, 2, rfl, rfl, h3, rfl, k.nx _ _ σ K1 _ (s1.gr gg) ((g.trans g1).trans gg) g1.kk q⟩
/-- a new list of three numbers is a drawer from now on -/
theorem Gr.learnM {Kn H Kn' H' : Hp} {n : Gh} {p : Addr} {o : HO} (g : Gr Kn H Kn' H' n) (h0 : H p = none) (k1 : Kn' p = none) (h1 : MarkAt H' p n o) (im : isM o = true) : Gr Kn H (upd Kn' p o) H' n where
  kk := fun a u h => by
    have e := g.kk a u h
    rw [upd_ne (ne_of_none e k1)]; exact e
  hh := g.hh
  ha := g.ha
  kh := fun a u h => by
    by_cases e : a = p
    · subst e
      rw [upd_same] at h; cases h
      exact .inl ⟨im, h1⟩
    · rw [upd_ne e] at h
      exact g.kh a u h
  nw := fun a u h h2 => by
    by_cases e : a = p
    · subst e; exact .inl h0
    · rw [upd_ne e] at h
      exact g.nw a u h h2
theorem src_imp {P : Program} {wd : World} {K : PySem.W.Frag} {mg : PySem.Str → Option Value} {base : Heap} {k m : Nat} {f : Addr} {fd : FuncData} {ps : List PySem.Str} {F F' : FW} (G : FnOk P wd K mg base (L2.CX P wd) k f fd ps (spOf m K F))
    (h : ∀ ds n R PX, F' ds n R PX → F ds n (fun n' r => ∃ A B C : Int, r = .n [.int A, .int B, .int C] ∧ 0 ≤ A ∧ 0 ≤ B ∧ B < 2147483647 ∧ 0 ≤ C ∧ C ≤ n'.n ∧ R n' (.d .src)) PX) : FnOk P wd K mg base (L2.CX P wd) k f fd ps (spOf m K F') :=
  G.imp fun vs H Q E q => by
    obtain ⟨hl, K0, n, ds, R, PX, k0, hd, hF, k1, k2⟩ := q
    refine ⟨hl, K0, n, ds, _, PX, k0, hd, h _ _ _ _ hF, fun n' r v Kn' H' g ne q rp => ?_, k2⟩
    obtain ⟨A, B, C, rfl, hA, hB, hB2, hC, hC2, q⟩ := q
    obtain ⟨p, vs, rfl, z0, z1, z2, z3⟩ := rp
    obtain ⟨v1, w1, rfl, rfl, v2, w2, rfl, rfl, v3, w3, rfl, rfl, rfl⟩ := z3
    exact k1 n' (.d .src) _ _ H' (g.learnM z0 z1 (.inl ⟨rfl, A, B, C, z2, hA, hB, hB2, hC, hC2⟩) rfl) (fun _ z => by cases z) q ⟨p, rfl, upd_same⟩

/-! ### the words that are gone through -/
structure PwC (K : PySem.W.Frag) (C : Addr) : Prop where
  cl : Cls K C
  w : NoAttr K C "words"
  p : NoAttr K C "place"
theorem wp_ : ¬ (("words" : PySem.Str) = "place") := by decide +kernel
theorem pw_ : ¬ (("place" : PySem.Str) = "words") := by decide +kernel
abbrev pwF (l : V) (i : Int) : List (PySem.Str × V) := [("words", l), ("place", .int i)]
theorem pwF_put (l : V) (i j : Int) : putF "place" (.int j) (pwF l i) = pwF l j := by
  show (if ("words" : PySem.Str) = "place" then _ else (("words" : PySem.Str), l) :: (if ("place" : PySem.Str) = "place" then [(("place" : PySem.Str), V.int j)] else _)) = pwF l j
  rw [if_neg wp_, if_pos rfl]
theorem pwF_new (l : V) (i : Int) : putF "place" (.int i) (putF "words" l []) = pwF l i := by
  show (if ("words" : PySem.Str) = "place" then _ else (("words" : PySem.Str), l) :: putF "place" (V.int i) []) = pwF l i
  rw [if_neg wp_]
  rfl
theorem pwF_place (l : V) (i : Int) : (pwF l i).lookup ("place" : PySem.Str) = some (.int i) := by
  simp only [pwF, List.lookup_cons, beq_eq_false_iff_ne.mpr pw_, beq_self_eq_true]
theorem pwF_words (l : V) (i : Int) : (pwF l i).lookup ("words" : PySem.Str) = some l := by
  simp only [pwF, List.lookup_cons, beq_self_eq_true]
theorem pwF_no (l : V) (i : Int) {m : PySem.Str} (h1 : ¬ m = "words") (h2 : ¬ m = "place") : (pwF l i).lookup m = none := by
  show (match m == "words" with | true => some l | false => List.lookup m [(("place" : PySem.Str), V.int i)]) = _
  rw [beq_eq_false_iff_ne.mpr h1]
  show (match m == "place" with | true => some (V.int i) | false => _) = _
  rw [beq_eq_false_iff_ne.mpr h2]
  rfl
theorem pw_at {C a : Addr} {ws : List D} {v : V} {Kn H : Hp} {n : Gh} (k : Kno Kn H n) (h : Dt K Kn (.pw C a ws) v) : ∃ l dx vs i, v = .ref a ∧ Kn a = some (pwM C l dx) ∧ H a = some (.ins C dx (pwF (.ref l) i)) ∧ (n.at_ = a → i = n.pl) ∧ Kn l = some (.lst vs) ∧ Dts K Kn ws vs := by
  obtain ⟨l, dx, vs, rfl, h3, h4, h5⟩ := h
  rcases k.at h3 rfl with ⟨z, _⟩ | ⟨C', l', dx', i, z, h6, h7⟩
  · cases z
  · cases z
    exact ⟨l, dx, vs, i, rfl, h3, h6, h7, h4, h5⟩
/-- self.words, self.place -/
def wPwW (C : Addr) (w : WD) : WD := fun δ n P PX => w δ n (fun n1 r => ∃ a ws, r = .d (.pw C a ws) ∧ P n1 (.d (.lst ws))) PX
def wPwP (C : Addr) (w : WD) : WD := fun δ n P PX => w δ n (fun n1 r => ∃ a ws, r = .d (.pw C a ws) ∧ n1.at_ = a ∧ P n1 (.d (.int n1.pl))) PX
theorem pd_pwW {C : Addr} {w : WD} (hC : PwC X.K C) (h : PD X E e w) (hb : attributeBase e "words" X.env (eval e X.env) = eval e X.env := by rfl) : PD X E (.Attribute e "words" pos) (wPwW C w) := by
  obtain ⟨te, h1, h2⟩ := h
  refine ⟨_, pe_fld h1 hb, fun δ n P PX w σ H0 Kn H s Q k x => ?_⟩
  refine h2 δ n _ PX w σ H0 Kn H s _ (fun n1 r v K1 H1 g1 q rp => ?_) x
  obtain ⟨a, ws, rfl, q⟩ := q
  obtain ⟨l, dx, vs, i, rfl, h3, h4, h5, h6, h7⟩ := pw_at g1.kh rp
  exact ⟨a, C, dx, _, _, rfl, h4, hC.cl, hC.w, pwF_words _ _, k n1 _ _ K1 H1 g1 q ⟨l, vs, rfl, h6, h7⟩⟩
theorem pd_pwP {C : Addr} {w : WD} (hC : PwC X.K C) (h : PD X E e w) (hb : attributeBase e "place" X.env (eval e X.env) = eval e X.env := by rfl) : PD X E (.Attribute e "place" pos) (wPwP C w) := by
  obtain ⟨te, h1, h2⟩ := h
  refine ⟨_, pe_fld h1 hb, fun δ n P PX w σ H0 Kn H s Q k x => ?_⟩
  refine h2 δ n _ PX w σ H0 Kn H s _ (fun n1 r v K1 H1 g1 q rp => ?_) x
  obtain ⟨a, ws, rfl, ha, q⟩ := q
  obtain ⟨l, dx, vs, i, rfl, h3, h4, h5, h6, h7⟩ := pw_at g1.kh rp
  have ei := h5 ha
  subst ei
  exact ⟨a, C, dx, _, _, rfl, h4, hC.cl, hC.p, pwF_place _ _, k n1 _ _ K1 H1 g1 q rfl⟩
theorem pw_write {Kn H : Hp} {n : Gh} {C a l dx : Addr} (k : Kno Kn H n) (h : Kn a = some (pwM C l dx)) (ha : n.at_ = a) (j : Int) : Gr Kn H Kn (upd H a (.ins C dx (pwF (.ref l) j))) { n with pl := j } := by
  refine Gr.mut k h rfl (.inr ⟨C, l, dx, j, rfl, upd_same, fun _ => rfl⟩) fun b o e z => ?_
  rcases z with ⟨rfl, A', B', C', z1, z2⟩ | ⟨C', l', dx', i, rfl, z1, z2⟩
  · exact .inl ⟨rfl, A', B', C', by rw [upd_ne e]; exact z1, z2⟩
  · exact .inr ⟨C', l', dx', i, rfl, by rw [upd_ne e]; exact z1, fun q => absurd (q.symm.trans ha) e⟩
/-- self.place += 1 -/
def wPwInc (C : Addr) (i : Nat) : WS := fun δ n po => ∃ a ws, δ[i]? = some (.d (.pw C a ws)) ∧ n.at_ = a ∧ po.nx δ { n with pl := n.pl + 1 }
theorem sd_pwInc {C : Addr} {i : Nat} {x : PySem.Str} {pn : Pos} {j : Nat} (hC : PwC X.K C) (hN : X.N[i]? = some x := by rfl) (hv : Vis X.env.scope x := by first | exact Or.inl rfl | exact Or.inr (Or.inl rfl) | exact Or.inr (Or.inr rfl)) (hd : (x == ("__debug__" : PySem.Str)) = false := by decide)
    (hcd : (x == ("__classdict__" : PySem.Str)) = false := by decide) : SD X E (.AugAssign (.Attribute (.Name x pn) "place" apos) .Add (.Constant (.int 1) j p) pos) (wPwInc C i) := by
  refine ⟨_, ps_fldaug (pe_var (i := i) hN hv hd hcd) pe_int in_add, fun δ n po w σ K0 H0 Kn H s g Dn k => ?_⟩
  obtain ⟨a, ws, e1, ha, q⟩ := w
  obtain ⟨v, e2, hv⟩ := s.datum e1
  obtain ⟨l, dx, vs, i, rfl, h3, h4, h5, h6, h7⟩ := pw_at s.kno hv
  have ei := h5 ha
  subst ei
  have gg := pw_write s.kno h3 ha (n.pl + 1)
  refine ⟨_, e2, a, C, dx, _, _, rfl, h4, hC.cl, hC.p, pwF_place _ _, _, _, rfl, rfl, dx, _, h4, by show 2 < 1000; decide, ?_⟩
  rw [pwF_put]
  exact k.nx δ _ σ Kn _ (s.gr gg) (g.trans gg) (Same.refl _) q
/-- the class called -/
def spInitPW (C : Addr) : Sp := fun vs H Q _ => ∃ p dx w, vs = [.ref p, w] ∧ H p = some (.ins C dx []) ∧ Q .non (upd H p (.ins C dx (pwF w 0)))
def wMakePW (C : Addr) (wa : WA) : WD := fun δ n P PX => wa δ n (fun n1 as => ∃ ws, Ar.dat as = some [.lst ws] ∧ ∀ a, P { n1 with at_ := a, pl := 0 } (.d (.pw C a ws))) PX
theorem pd_makePW {C f : Addr} {fd : FuncData} {k : Nat} {ps : List PySem.Str} {x : PySem.Str} {wa : WA} (M : Mk X.K C f) (G : FnOk X.prog X.w X.K X.mg X.base (L2.CX X.prog X.w) k f fd ps (spInitPW C)) (hr : Room (k + 1) X.A) (hg : Gl X x) (hm : X.mg x = some (.ref C)) (hb : Binds X.K fd ps []) (ha : AD X E (e :: es) wa)
    (hdb : (x == ("__debug__" : PySem.Str)) = false := by decide) (he : starEach (e :: es) X.env = (false, eval e X.env) :: starEach es X.env := by rfl) (hpl : (backTo pos (starEach es X.env)).any (·.1) = false := by rfl) : PD X E (.Call (.Name x p) (e :: es) [] pos) (wMakePW C wa) := by
  obtain ⟨ta, h1, h2⟩ := ha
  refine ⟨_, pe_make M G hr hg hm hb .nil passL h1 hdb he hpl, fun δ n P PX w σ H0 Kn H s Q kk xx => ?_⟩
  refine h2 δ n _ PX w σ H0 Kn H s _ (fun n1 as vs K1 H1 g1 q rp => ?_) xx
  obtain ⟨ws, e1, q⟩ := q
  obtain ⟨v, w', rfl, ⟨l, us, rfl, hl, hds⟩, rfl⟩ := rp.dat e1
  intro a dx na nd ne
  have nl : l ≠ a := fun z => by
    have := g1.kh.of hl rfl
    rw [z, na] at this; cases this
  rw [List.append_nil]
  refine ⟨a, dx, .ref l, rfl, upd_same, rfl, ?_⟩
  have ka := g1.kh.free na
  have kl : l ≠ a := nl
  have ext : Same H1 (upd (upd (upd H1 dx (.own a)) a (.ins C dx [])) a (.ins C dx (pwF (.ref l) 0))) := fun b o z => by
    rw [upd_ne (ne_of_none z na), upd_ne (ne_of_none z na), upd_ne (ne_of_none z nd)]
    exact z
  have g2 := Gr.ext g1.kh ext
  have g3 := (g1.trans g2)
  have mk : MarkAt (upd (upd (upd H1 dx (.own a)) a (.ins C dx [])) a (.ins C dx (pwF (.ref l) 0))) a { n1 with at_ := a, pl := 0 } (pwM C l dx) := .inr ⟨C, l, dx, 0, rfl, upd_same, fun _ => rfl⟩
  have kno' : Kno K1 (upd (upd (upd H1 dx (.own a)) a (.ins C dx [])) a (.ins C dx (pwF (.ref l) 0))) { n1 with at_ := a, pl := 0 } := fun b o z => by
    rcases g2.kh b o z with ⟨z1, z2⟩ | z1
    · refine .inl ⟨z1, ?_⟩
      have nb : b ≠ a := fun q => by rw [q, ka] at z; cases z
      rcases z2 with ⟨rfl, A', B', C', y1, y2⟩ | ⟨C', l', dx', i, rfl, y1, y2⟩
      · exact .inl ⟨rfl, A', B', C', y1, y2⟩
      · exact .inr ⟨C', l', dx', i, rfl, y1, fun q => absurd q.symm nb⟩
    · exact .inr z1
  have g4 : Gr Kn H K1 (upd (upd (upd H1 dx (.own a)) a (.ins C dx [])) a (.ins C dx (pwF (.ref l) 0))) { n1 with at_ := a, pl := 0 } := ⟨g3.kk, g3.hh, g3.ha, kno', g3.nw⟩
  have g5 := g4.learnM (g1.ha a na) ka mk rfl
  refine kk _ _ _ _ _ g5 (q a) ⟨l, dx, us, rfl, upd_same, ?_, Dts.mono (fun b o z => ?_) _ _ hds⟩
  · rw [upd_ne nl]; exact hl
  · rw [upd_ne (ne_of_none z ka)]; exact z
/-- own methods, nothing is raised -/
def wMeth (C : Addr) (F : FW) (m : Nat) (w : WD) (wa : WA) : WD := fun δ n P PX => w δ n (fun n1 r => ∃ a ws, r = .d (.pw C a ws) ∧ wa δ n1 (fun n2 as => ∃ xs, Ar.dat as = some xs ∧ xs.length + 1 = m ∧ F (.pw C a ws :: xs) n2 P PXF0) PX) PX
theorem ev_meth {C : Addr} {F : FW} {m : Nat} {w : WD} {wa : WA} {te : TE} {ta : TA} {nm : PySem.Str} (n1 : ¬ nm = "words") (n2 : ¬ nm = "place") (h2 : ∀ δ n P PX, w δ n P PX → EvD K E δ n te P PX) (a2 : ∀ δ n P PX, wa δ n P PX → EvAs K E δ n ta P PX)
    (δ : List Sl) (n : Gh) (P : Gh → Rs → Prop) (PX : PXT) (w : wMeth C F m w wa δ n P PX) : EvD K E δ n (tMeth C nm (spOf m K F) [] E0 te ta) P PX := by
  intro σ H0 Kn H s Q kk xx
  refine h2 δ n _ PX w σ H0 Kn H s _ (fun m1 r v K1 H1 g1 q rp => ?_) xx
  obtain ⟨a, ws, rfl, q⟩ := q
  obtain ⟨l, dx, vs, i, rfl, h3, h4, h5, h6, h7⟩ := pw_at g1.kh rp
  refine ⟨a, dx, _, rfl, h4, pwF_no _ _ n1 n2, a2 δ m1 _ PX q σ H0 K1 H1 (s.gr g1) _ (fun m2 as us K2 H2 g2 q2 rp2 => ?_) (xx.gr g1)⟩
  obtain ⟨xs, e1, hl, q2⟩ := q2
  have hd := rp2.dat e1
  rw [List.append_nil]
  refine ⟨by rw [List.length_cons, ← hd.length]; exact hl, K2, m2, _, P, PXF0, g2.kh, show Dts K K2 (.pw C a ws :: xs) _ from ⟨_, us, rfl, Dt.mono g2.kk _ _ rp, hd⟩, q2, fun n' r v Kn' H' g ne q rp => kk n' r v Kn' H' ((g1.trans g2).trans g) q (Rep.back (fun a z => g1.ha a (g2.ha a z)) (rp.st ne)), fun _ _ _ _ _ _ _ z => z.elim⟩
theorem pd_meth0 {C f : Addr} {fd : FuncData} {k : Nat} {ps : List PySem.Str} {m : Nat} {F : FW} {nm : PySem.Str} {w : WD} {pl : Sem Bool} (c : Cls X.K C) (hm : Meth X.K C nm f) (G : FnOk X.prog X.w X.K X.mg X.base (L2.CX X.prog X.w) k f fd ps (spOf m X.K F)) (hr : Room k X.A) (hb : Binds X.K fd ps []) (ho : PD X E o w)
    (n1 : ¬ nm = "words" := by decide +kernel) (n2 : ¬ nm = "place" := by decide +kernel)
    (ht : eval (.Call (.Attribute o nm apos) [] [] pos) X.env = (do
      let ov ← eval o X.env
      standAt apos.atName
      let (f, first) ← holding [ov] (getMethod ov nm pl)
      callWith pos f first (backTo pos (starEach [] X.env)) (backToKw pos (keywordEach [] X.env))) := by rfl) : PD X E (.Call (.Attribute o nm apos) [] [] pos) (wMeth C F m w wNil) := by
  obtain ⟨te, h1, h2⟩ := ho
  exact ⟨_, pe_meth0 h1 c hm G hr hb .nil passL ht, ev_meth n1 n2 h2 fun δ n P PX w σ H0 Kn H s Q k _ => k n [] [] Kn H (Gr.refl s.kno) w rfl⟩
theorem pd_meth {C f : Addr} {fd : FuncData} {k : Nat} {ps : List PySem.Str} {m : Nat} {F : FW} {nm : PySem.Str} {w : WD} {wa : WA} {pl : Sem Bool} (c : Cls X.K C) (hm : Meth X.K C nm f) (G : FnOk X.prog X.w X.K X.mg X.base (L2.CX X.prog X.w) k f fd ps (spOf m X.K F)) (hr : Room k X.A) (hb : Binds X.K fd ps []) (ho : PD X E o w) (ha : AD X E (e :: es) wa)
    (n1 : ¬ nm = "words" := by decide +kernel) (n2 : ¬ nm = "place" := by decide +kernel)
    (hst : starEach (e :: es) X.env = (false, eval e X.env) :: starEach es X.env := by rfl) (hpl : (backTo pos (starEach es X.env)).any (·.1) = false := by rfl)
    (ht : eval (.Call (.Attribute o nm apos) (e :: es) [] pos) X.env = (do
      let ov ← eval o X.env
      standAt apos.atName
      let (f, first) ← holding [ov] (getMethod ov nm pl)
      callWith pos f first (backTo pos (starEach (e :: es) X.env)) (backToKw pos (keywordEach [] X.env))) := by rfl) : PD X E (.Call (.Attribute o nm apos) (e :: es) [] pos) (wMeth C F m w wa) := by
  obtain ⟨te, h1, h2⟩ := ho
  obtain ⟨ta, h3, h4⟩ := ha
  exact ⟨_, pe_meth h1 c hm G hr hb .nil passL h3 hst hpl ht, ev_meth n1 n2 h2 h4⟩

/-! ### a or b of values -/
def D.truth : D → Option Bool
  | .non => some false
  | .bl b => some b
  | .int i => some (i != 0)
  | .str x => some (!x.isEmpty)
  | .tup xs => some (!xs.isEmpty)
  | .lst xs => some (!xs.isEmpty)
  | _ => none
theorem truth_ok {Kn H : Hp} {n : Gh} (k : Kno Kn H n) {x : D} {v : V} {t : Bool} (h : Vw K Kn H x v) (e : x.truth = some t) (hl : ∀ c, x = .str c → c.length ≤ sizeLine) : TruV K v H t := by
  cases x with
  | non => obtain rfl : v = .non := h; cases e; exact rfl
  | bl b => obtain rfl : v = .bl b := h; cases e; exact rfl
  | int i => obtain rfl : v = .int i := h; cases e; exact rfl
  | str x =>
    obtain ⟨rfl, _⟩ := h
    cases e
    refine ⟨by rw [S_len]; exact hl x rfl, ?_⟩
    rw [S_len]
    cases x <;> rfl
  | tup xs =>
    obtain ⟨a, vs, rfl, h1, h2⟩ := h
    cases e
    have hl := h2.length
    exact .inr (.inl ⟨vs, sqT_kno k h1, by cases xs <;> cases vs <;> first | rfl | cases hl⟩)
  | lst xs =>
    obtain ⟨a, vs, rfl, _, h1, h2⟩ := h
    cases e
    have hl := h2.length
    exact .inl ⟨vs, SqL.of h1, by cases xs <;> cases vs <;> first | rfl | cases hl⟩
  | _ => cases e
def strFit : D → Prop
  | .str c => c.length ≤ sizeLine
  | _ => True
def wOrA (wa wb : WD) : WD := fun δ n P PX => wa δ n (fun n1 r => ∃ x t, vw δ r = some x ∧ x.truth = some t ∧ strFit x ∧ (t = true → P n1 r) ∧ (t = false → wb δ n1 P PX)) PX
theorem pd_orA {wa wb : WD} (ha : PD X E a wa) (hb : PD X E (.BoolOp .Or (b :: rest) pos) wb) : PD X E (.BoolOp .Or (a :: b :: rest) pos) (wOrA wa wb) := by
  obtain ⟨ta, h1, h2⟩ := ha
  obtain ⟨tb, h3, h4⟩ := hb
  refine ⟨_, pe_orT h1 h3, fun δ n P PX w σ H0 Kn H s Q k x => ?_⟩
  refine h2 δ n _ PX w σ H0 Kn H s _ (fun n1 r v K1 H1 g1 q rp => ?_) x
  obtain ⟨y, t, e1, e2, e3, q⟩ := q
  refine ⟨t, truth_ok g1.kh (Rep.vw (s.gr g1) rp e1) e2 (fun c z => by rw [z] at e3; exact e3), ?_⟩
  cases t with
  | true => exact iteT (k n1 r v K1 H1 g1 (q.1 rfl) rp)
  | false => exact iteF (h4 δ n1 P PX (q.2 rfl) σ H0 K1 H1 (s.gr g1) Q (fun n2 r2 v2 K2 H2 g2 q2 rp2 => k n2 r2 v2 K2 H2 (g1.trans g2) q2 (rp2.back g1.ha)) (x.gr g1))
/-- x = y.pop(e), y an own list -/
def wSetPop (j i : Nat) (we : WD) : WS := fun δ n po => ∃ xs, δ[i]? = some (.l xs) ∧ we δ n (fun n' r => ∃ (m : Int) (kk : Nat) (y : D), r = .d (.int m) ∧ -(2 ^ 63) ≤ m ∧ m < 2 ^ 63 ∧ seqIndex? m xs.length = some kk ∧ xs[kk]? = some y ∧ i ≠ j ∧ po.nx ((δ.set i (.l (xs.eraseIdx kk))).set j (.d y)) n') po.px
theorem Dts.erase {Kn : Hp} : ∀ {ds : List D} {vs : List V} (k : Nat), Dts K Kn ds vs → Dts K Kn (ds.eraseIdx k) (vs.eraseIdx k)
  | [], vs, k, h => by
    obtain rfl : vs = [] := h
    exact rfl
  | d :: ds, vs, 0, h => by
    obtain ⟨v, us, rfl, h1, h2⟩ := h
    exact h2
  | d :: ds, vs, k + 1, h => by
    obtain ⟨v, us, rfl, h1, h2⟩ := h
    exact ⟨v, us.eraseIdx k, rfl, h1, Dts.erase k h2⟩
theorem sd_setPop (i : Nat) {j : Nat} {x y : PySem.Str} {py pn p1 p2 p3 : Pos} {we : WD} (hNd : X.N.Nodup) (hj : X.N[j]? = some y) (hy : Loc X.env.scope y) (he : PD X E e we) (hN : X.N[i]? = some x := by rfl) (hv : Vis X.env.scope x := by first | exact Or.inl rfl | exact Or.inr (Or.inl rfl) | exact Or.inr (Or.inr rfl)) (hd : (x == ("__debug__" : PySem.Str)) = false := by decide)
    (hcd : (x == ("__classdict__" : PySem.Str)) = false := by decide)
    (hbase : attributeBase (.Name x pn) "pop" X.env (eval (.Name x pn) X.env) = eval (.Name x pn) X.env := by rfl) (hs : starEach [e] X.env = (false, eval e X.env) :: starEach [] X.env := by rfl)
    (hfew : ((backTo p2 (starEach [e] X.env)).all (fun x => !x.1) && (backToKw p2 (keywordEach [] X.env)).all (fun x => x.1.isSome) && decide ([e].length + ([] : List Keyword).length + (if ([] : List Keyword).isEmpty then 0 else 1) < 30)) = true := by rfl)
    (hline : (p1.endLine == p2.line) = true := by rfl) (hplain : (backTo p2 (starEach [] X.env)).any (·.1) = false := by rfl)
    (hsw : swapsWith (.Call (.Attribute (.Name x pn) "pop" p1) [e] [] p2) (some (.Name y py)) p3.line X.env = pure false := by rfl)
    (hf : X.fn y = true ∨ X.env.scope.names.lookup y = some .local := by first | exact .inl rfl | exact .inr rfl | assumption) : SD X E (.Assign [.Name y py] (.Call (.Attribute (.Name x pn) "pop" p1) [e] [] p2) p3) (wSetPop j i we) := by
  obtain ⟨t, h1, h2⟩ := he
  refine ⟨_, ps_set hNd hj hy (pe_bm PySem.F.plainAttrs_list PySem.F.slot_list_pop PySem.F.type_list_pop mt_popAt (pe_var (i := i) hN hv hd hcd) (pa_cons h1 pa_nil hs) hbase hfew hline hs hplain) hsw hf, fun δ n po w σ K0 E0 Kn H s g Dn k => ?_⟩
  obtain ⟨xs, e1, w⟩ := w
  obtain ⟨q, vs, f1, f2, f3, f4, f5⟩ := s.list e1
  refine ⟨_, f1, .inl ⟨rfl, _, SqL.of f4⟩, h2 δ n _ po.px w σ E0 Kn H s _ (fun n1 r v K1 H1 g1 p rp => ?_) (k.exOk s g)⟩
  obtain ⟨m, kk, y, rfl, hm1, hm2, hx, hz, nij, p⟩ := p
  obtain rfl : v = .int m := rp
  obtain ⟨z1, z2⟩ := g1.un f2 f4
  have f6 := Dts.mono g1.kk _ _ f5
  obtain ⟨u, e2, hu⟩ := f6.get hz
  have s2 := (s.gr g1).write e1 f1 (Dts.erase kk f6)
  have s3 := s2.setD j hu
  exact ⟨q, vs, m, kk, u, rfl, rfl, z2, hm1, hm2, by rw [← f5.length]; exact hx, e2, k.nx _ n1 _ K1 _ s3 ((g.trans g1).put f3 z1) g1.kk p⟩
end
end DL
/-! Sets of texts: set(texts), len and sorted of them. -/
namespace DL
open PySem PySem.Spec PyProof.Rows L2
/-- the set of the texts l at a, one that can be walked -/
def TxR (P : Program) (w : World) (h : Heap) (a : Addr) (l : List PySem.Str) : Prop :=
  ∃ D : Froz.SD, h.get? a = some (Froz.sObj "set" D) ∧ Froz.TxOk P w D l ∧ l.Nodup ∧ Ris D.2.2.place.toList ∧ (w.params.followText "set-order" = true ∨ D.2.2.led = true)
section
variable {P : Program} {w : World} {A : Around} {E : Value → Shared → Prop} {s : Shared} {a : Addr} {l : List PySem.Str}
theorem TxR.at {h h' : Heap} (R : TxR P w h a l) (k : ∀ o, h.get? a = some o → h'.get? a = some o) : TxR P w h' a l := by
  obtain ⟨D, ho, r⟩ := R
  exact ⟨D, k _ ho, r⟩
theorem tail_ris {ep : Nat} {es1 : Array (Int × Value)} {t2 : SetTable} {b : Bool} (r : Ris t2.place.toList) : Ris (Froz.tailTx ep es1 t2 b).2.2.place.toList := by
  unfold Froz.tailTx
  split
  · exact relayAll_ris t2 es1 _
  · exact r
theorem tail_led {ep : Nat} {es1 : Array (Int × Value)} {t2 : SetTable} {b : Bool} : (Froz.tailTx ep es1 t2 b).2.2.led = t2.led := by
  unfold Froz.tailTx
  split
  · exact relayAll_led t2 es1 _
  · rfl
theorem add_ris {h : Int} {v : Value} {D : Froz.SD} (r : Ris D.2.2.place.toList) : Ris (Froz.addTx h v D).2.2.place.toList := by
  unfold Froz.addTx
  refine tail_ris ?_
  split
  · exact layNew_ris D.2.2 D.1 h v r
  · exact layNew_ris D.2.2 D.1 h v r
theorem add_led {h : Int} {v : Value} {D : Froz.SD} : (Froz.addTx h v D).2.2.led = D.2.2.led := by
  unfold Froz.addTx
  rw [tail_led]
  split
  · exact layNew_led D.2.2 D.1 h v
  · exact layNew_led D.2.2 D.1 h v
def addL (l : List PySem.Str) (k : PySem.Str) : List PySem.Str := if k ∈ l then l else k :: l
theorem txR_add {k : PySem.Str} {u : Tok} {Q : Bool → Shared → Prop} (R : TxR P w s.heap a l) (room : l.length + 1 < scanBound)
    (hQ : ∀ h' b, Heap.SameBut a s.heap h' → TxR P w h' a (addL l k) → Q b { s with heap := h' }) : wpAny (model P w) A (setAddHashed a (.str k u) (hashStr w k)) Q E s := by
  obtain ⟨D, ho, F, nd, hr, hl⟩ := R
  unfold addL at hQ
  by_cases hk : k ∈ l
  · rw [if_pos hk] at hQ
    have q := hQ s.heap false (Heap.SameBut.refl a s.heap) ⟨D, ho, F, nd, hr, hl⟩
    obtain ⟨es, ep, t⟩ := D
    have hd : (Froz.sObj "set" (es, ep, t)).data = .set es ep t := rfl
    have hf : t.fits es.size = true := F.fit
    have hel : ElemsOf (strKind P w) es.toList := F.el
    have hsz : es.size = l.length := F.sz
    have hb0 : es.size < scanBound := by omega
    have hkey : (strKind P w).is k (.str k u) = true := Froz.is_str k u
    unfold setAddHashed setAddHashedIn
    refine wpAny_holding (wpAny_bind (wpAny_setState_of ho hd hf ?_))
    dsimp only
    rw [byScan_of rfl hb0 hel]
    simp only [↓reduceIte]
    unfold setAddByScan
    refine wpAny_bind ?_
    refine wpAny_bind (wpAny_rule ?_)
    refine wpAny_bind (wpAny_setScan_of (knd := strKind P w) (k := k) hkey ho hd hf hel ?_)
    cases hfi : List.findIdx? (fun e => (strKind P w).is k e.2) es.toList with
    | some j =>
      dsimp only
      exact wpAny_pure (wpAny_pure q)
    | none =>
      obtain ⟨e, he, z⟩ := (F.mem k).mp hk
      have c := List.findIdx?_eq_none_iff.mp hfi e he
      rw [z] at c
      cases c
  · rw [if_neg hk] at hQ
    refine Froz.add_x ho F hk room ?_
    refine hQ _ true (Heap.SameBut.update s.heap a _) ⟨_, Froz.get_upd _ ho rfl, Froz.add_ok u F, List.nodup_cons.mpr ⟨hk, nd⟩, add_ris hr, hl.imp id fun z => by rw [add_led]; exact z⟩
def addAll (l : List PySem.Str) : List PySem.Str → List PySem.Str
  | [] => l
  | k :: r => addAll (addL l k) r
theorem addL_le (l : List PySem.Str) (k : PySem.Str) : (addL l k).length ≤ l.length + 1 := by
  unfold addL
  split
  · omega
  · exact Nat.le_refl _
theorem addL_mem {l : List PySem.Str} {k j : PySem.Str} : j ∈ addL l k ↔ j ∈ l ∨ j = k := by
  unfold addL
  split
  · rename_i h
    exact ⟨.inl, fun z => z.elim id fun e => e ▸ h⟩
  · rw [List.mem_cons]; exact Or.comm
theorem addL_nodup {l : List PySem.Str} {k : PySem.Str} (h : l.Nodup) : (addL l k).Nodup := by
  unfold addL
  split
  · exact h
  · rename_i n
    exact List.nodup_cons.mpr ⟨n, h⟩
theorem addAll_mem : ∀ {r l : List PySem.Str} {j : PySem.Str}, j ∈ addAll l r ↔ j ∈ l ∨ j ∈ r
  | [], l, j => by simp [addAll]
  | k :: r, l, j => by
    rw [addAll, addAll_mem, addL_mem, List.mem_cons, or_assoc]
theorem addAll_nodup : ∀ {r l : List PySem.Str}, l.Nodup → (addAll l r).Nodup
  | [], l, h => h
  | k :: r, l, h => addAll_nodup (r := r) (l := addL l k) (addL_nodup h)
theorem addAll_le : ∀ {r l : List PySem.Str}, (addAll l r).length ≤ l.length + r.length
  | [], l => Nat.le_refl _
  | k :: r, l => by
    have := addAll_le (r := r) (l := addL l k)
    have := addL_le l k
    rw [addAll, List.length_cons]
    omega
theorem addAll_take {xs l : List PySem.Str} {k : PySem.Str} : ∀ {i : Nat}, xs[i]? = some k → addAll l (xs.take (i + 1)) = addL (addAll l (xs.take i)) k := by
  induction xs generalizing l with
  | nil => intro i h; simp at h
  | cons x xs ih =>
    intro i h
    cases i with
    | zero =>
      obtain rfl : x = k := Option.some.inj h
      rfl
    | succ i =>
      show addAll (addL l x) (xs.take (i + 1)) = addL (addAll (addL l x) (xs.take i)) k
      exact ih h
theorem txR_new {h : Heap} {a : Addr} (ho : h.get? a = some { cls := .type "set", dict := none, data := .set #[] 0 (.fresh 0 0 (!w.params.followText "set-order")) }) : TxR P w h a [] :=
  ⟨(#[], 0, .fresh 0 0 (!w.params.followText "set-order")), ho, Froz.TxOk.nil (by rfl), List.nodup_nil, List.Pairwise.nil, by
    show _ ∨ (!w.params.followText "set-order") = true
    cases w.params.followText "set-order"
    · exact .inr rfl
    · exact .inl rfl⟩
theorem set_update_tx {I : Addr} {fp wr : List Addr} {G : Array GenState → Array GenState → Prop} {n : Nat} {Pv : Nat → Value → Prop} {St : Nat → Shared → Prop} {R : Result → Shared → Prop}
    (W : WalksS P w A.in1 I fp wr G n Pv St) (S : Addr) (hSf : S ∉ fp) (xs : List PySem.Str) (hn : n = xs.length) (hb : xs.length + 1 < scanBound) (hval : ∀ i v, Pv i v → ∃ k t, xs[i]? = some k ∧ v = .str k t) :
    ∀ (k i : Nat) (s : Shared), n - i = k → i ≤ n → St i s → TxR P w s.heap S (addAll [] (xs.take i)) →
      (∀ s', Moved (S :: wr) G s s' → TxR P w s'.heap S (addAll [] xs) → R (.ok (.ret .none)) s') →
      codeAny (model P w) A (.builtin "set.update.loop" ⟨[.ref S, .ref I], []⟩) R s := by
  have hSw : S ∉ wr := fun h => hSf (W.sub _ h)
  have hsub : ∀ b ∈ wr, b ∈ S :: wr := fun b hb => List.mem_cons_of_mem _ hb
  intro k
  induction k with
  | zero =>
    intro i s hk' hi hst hS hR
    have hin : i = n := by omega
    subst hin
    refine codeAny_builtin F.entry_set_update_loop ?_
    rw [Around.under_plainId F.plain_set_update_loop _]
    show wpAny _ A.in1 (pyNext (.ref I) >>= _) _ _ s
    refine wpAny_bind (W.done s _ _ hst fun s' hm => ?_)
    show wpAny _ A.in1 (ret Value.none) _ _ s'
    have e : xs.take i = xs := List.take_of_length_le (by omega)
    rw [e] at hS
    exact wpAny_pure (hR s' (hm.mono hsub) (hS.at fun o e => hm.heap S o hSw e))
  | succ k ih =>
    intro i s hk' hi hst hS hR
    have hlt : i < n := by omega
    refine codeAny_builtin F.entry_set_update_loop ?_
    rw [Around.under_plainId F.plain_set_update_loop _]
    show wpAny _ A.in1 (pyNext (.ref I) >>= _) _ _ s
    refine wpAny_bind (W.item i s _ _ hlt hst fun v s' hP hst' hm => ?_)
    obtain ⟨z, t, hz, rfl⟩ := hval i v hP
    have hS' : TxR P w s'.heap S (addAll [] (xs.take i)) := hS.at fun o e => hm.heap S o hSw e
    show wpAny _ A.in1 (holding [Value.str z t] (setAdd S (.str z t)) >>= _) _ _ s'
    refine wpAny_bind (wpAny_holding ?_)
    unfold setAdd
    refine wpAny_holding ?_
    refine wpAny_bind ((strKind P w).pyHash (k := z) (strKind_is _ _ _ _) ?_)
    have hl2 := addAll_le (r := xs.take i) (l := [])
    rw [List.length_take, List.length_nil] at hl2
    refine txR_add (s := { s' with toks := s'.toks + 1 }) hS' (by omega) fun h' b hsb hS2 => ?_
    have hS3 : TxR P w h' S (addAll [] (xs.take (i + 1))) := by
      rw [addAll_take hz]; exact hS2
    refine wpAny_pure ⟨plainId_quiet F.plain_set_update_loop _, ih (i + 1) _ (by omega) hlt (W.frame _ s' _ _ hst' (Nat.le_succ _) fun b hb o e => ?_) hS3 fun s'' hm'' hS'' => ?_⟩
    · rw [hsb.2 b (fun h : b = S => hSf (by rw [← h]; exact hb))]; exact e
    · refine hR s'' (Moved.trans W.gtrans ((hm.mono hsub).then_heap (Nat.le_succ _) fun b o hb e => ?_) hm'') hS''
      rw [hsb.2 b (fun h : b = S => hb (by rw [h]; exact List.mem_cons_self))]; exact e
theorem strs_at2 {us : List Value} {xs : List PySem.Str} (h : StrsAre us xs) {i : Nat} {v : Value} (e : us[i]? = some v) : ∃ k t, xs[i]? = some k ∧ v = .str k t := by
  induction h generalizing i with
  | nil => simp at e
  | cons x t hr ih =>
    cases i with
    | zero => simp at e; exact ⟨x, t, rfl, e.symm⟩
    | succ i => exact ih e

set_option maxHeartbeats 3200000 in
theorem call_set_tup {l : Addr} {items : Array Value} (xs : List PySem.Str) {Q : Value → Shared → Prop} (hh : A.handled = none) (hl : s.heap.IsTuple l items ∨ s.heap.IsList l items) (hit : StrsAre items.toList xs) (hb : xs.length + 1 < scanBound)
    (h : ∀ (h' : Heap) (tk : Nat), TxR P w h' s.heap.objs.size (addAll [] xs) → (∀ b o, s.heap.get? b = some o → h'.get? b = some o) → Q (.ref s.heap.objs.size) { s with heap := h', toks := tk }) :
    wpAny (model P w) A (call (.type "set") [.ref l]) Q E s := by
  have hisz : items.size = xs.length := by
    have q := StrsAre.len_eq hit
    rw [Array.length_toList] at q
    exact q
  obtain ⟨c, tl, hmro⟩ := F.called_set.mro
  have hmade := F.called_set.made
  have hsub := F.called_set.sub
  refine wpAny_call (codeAny_of_tree ?_)
  show wpAny _ _ (callAny (.type "set") _) _ _ _
  refine wpAny_pure ⟨Code.quiet_builtin _ (by decide +kernel), codeAny_builtin F.entry_type_call ?_⟩
  rw [Around.under_plain (weight_type_call_type "set" [.ref l] []) rfl]
  have h1 := F.called_set.notType
  have h2 := F.called_set.canCreate
  have hct := F.typeCall_set_1 (.ref l)
  repeat (any_goals (first | assumption | wp_step))
  refine codeAny_mono (code_set_led1 (.ref l) (E := E) (Q₁ := fun obj s₁ => obj = .ref s.heap.objs.size ∧ s₁ = { s with heap := s.heap.push { cls := .type "set", dict := none, data := .set #[] 0 (.fresh 0 0 (!w.params.followText "set-order")) } }) ⟨rfl, rfl⟩) fun r s₁ hr => ?_
  cases r with
  | error e => exact hr
  | ok fl =>
    cases fl with
    | ret obj =>
      obtain ⟨rfl, rfl⟩ := hr
      have hS : (s.heap.push { cls := .type "set", dict := none, data := .set #[] 0 (.fresh 0 0 (!w.params.followText "set-order")) }).get? s.heap.objs.size = some { cls := .type "set", dict := none, data := .set #[] 0 (.fresh 0 0 (!w.params.followText "set-order")) } := Heap.get?_push_size _ rfl
      have hT : Shared.TypeIs { s with heap := s.heap.push { cls := .type "set", dict := none, data := .set #[] 0 (.fresh 0 0 (!w.params.followText "set-order")) } } (.ref s.heap.objs.size) "set" := ⟨_, hS, rfl⟩
      have hli := F.called_set.init.lookup
      have hbi := F.called_set.init.bind (.ref s.heap.objs.size)
      repeat (any_goals (first | assumption | wp_step))
      refine codeAny_mono (codeAny_call_builtin (R := wants (fun r s₂ => r = .none ∧ ∃ h' tk, s₂ = { s with heap := h', toks := tk } ∧ TxR P w h' s.heap.objs.size (addAll [] xs) ∧
          (∀ b o, s.heap.get? b = some o → h'.get? b = some o)) E) F.called_set.init.plain F.entry_set_init (check_set_init_1 hT ?_)) fun r₂ s₂ hr₂ => ?_
      · have hh3 : A.in1.in1.in1.handled = none := by simp [hh]
        have hlS : l < s.heap.objs.size := by
          rcases hl with ⟨ol, hol, _⟩ | ⟨ol, hol, _⟩ <;> exact Heap.lt_size hol
        have hneI : l ≠ (s.heap.push { cls := .type "set", dict := none, data := .set #[] 0 (.fresh 0 0 (!w.params.followText "set-order")) }).objs.size := by
          rw [Heap.size_push]; exact Nat.ne_of_lt (Nat.lt_succ_of_lt hlS)
        have hSf : s.heap.objs.size ∉ [(s.heap.push { cls := .type "set", dict := none, data := .set #[] 0 (.fresh 0 0 (!w.params.followText "set-order")) }).objs.size, l] := by
          rw [Heap.size_push]; simp only [List.mem_cons, List.mem_singleton, List.not_mem_nil, or_false, not_or]
          exact ⟨Nat.ne_of_lt (Nat.lt_succ_self _), Nat.ne_of_gt hlS⟩
        have hval : ∀ (i : Nat) (v : Value), items[i]? = some v → ∃ k t, xs[i]? = some k ∧ v = .str k t := fun i v hv => strs_at2 hit (by rw [Array.getElem?_toList]; exact hv)
        rcases hl with hl | hl
        · obtain ⟨ol, hol, hcl, nl, hdl⟩ := hl
          obtain ⟨ocls, odict, odata, oslots⟩ := ol
          simp only at hcl hdl
          subst hcl; subst hdl
          have hol' : (s.heap.push { cls := .type "set", dict := none, data := .set #[] 0 (.fresh 0 0 (!w.params.followText "set-order")) }).get? l = some { cls := .type "tuple", dict := odict, data := .seq items nl, slots := oslots } := Heap.get?_push_of_some _ hol
          have hsls := F.sub_tuple_set
          have hslf := F.sub_tuple_frozenset
          have hne : (Value.type "tuple" == Value.type "dict") = false := by decide
          have hl1 : (s.heap.push { cls := .type "set", dict := none, data := .set #[] 0 (.fresh 0 0 (!w.params.followText "set-order")) }).IsTuple l items := ⟨_, hol', rfl, nl, rfl⟩
          unfold Builtin.«set.__init__» noKeywords Builtin.Frozenset.updateFrom
          generalize hPI : pyIter = PI
          wp_walk
          subst hPI
          refine wpAny_pyIter_tuple hl1 ?_
          refine wpAny_bind (wpAny_runValue ?_)
          refine set_update_tx ((Walks.tuple hh3 _ l hneI items).toS) s.heap.objs.size
            hSf xs hisz hb hval (items.size - 0) 0 _ (by omega) (Nat.zero_le _)
            ⟨⟨_, Heap.get?_push_size _ rfl, rfl, rfl⟩, (hl1.push _)⟩ ?hS0 ?hR
          case hS0 => exact txR_new (Heap.get?_push_of_some _ hS)
          case hR =>
            intro s' hm hS'
            obtain ⟨h', g2, d', tk', os'⟩ := s'
            have eg : g2 = s.gens := hm.gens
            have ed : d' = s.drawn := hm.drawn
            have eo : os' = s.os := hm.os
            subst eg; subst ed; subst eo
            show wpAny _ _ _ _ _ _
            refine wpAny_pure ?_
            show wpAny _ _ (ret Value.none) _ _ _
            refine wpAny_pure ⟨rfl, h', tk', rfl, hS', fun b o e => ?_⟩
            have hb0 : b < s.heap.objs.size := Heap.lt_size e
            have hb1 : b ≠ s.heap.objs.size := Nat.ne_of_lt hb0
            have hb2 : b ≠ (s.heap.push { cls := .type "set", dict := none, data := .set #[] 0 (.fresh 0 0 (!w.params.followText "set-order")) }).objs.size := by
              rw [Heap.size_push]; exact Nat.ne_of_lt (Nat.lt_succ_of_lt hb0)
            exact hm.heap b o (by simp only [List.mem_cons, List.mem_singleton, List.not_mem_nil, or_false, not_or]; exact ⟨hb1, hb2⟩) (Heap.get?_push_of_some _ (Heap.get?_push_of_some _ e))
        · obtain ⟨ol, hol, hcl, nl, hdl⟩ := hl
          obtain ⟨ocls, odict, odata, oslots⟩ := ol
          simp only at hcl hdl
          subst hcl; subst hdl
          have hol' : (s.heap.push { cls := .type "set", dict := none, data := .set #[] 0 (.fresh 0 0 (!w.params.followText "set-order")) }).get? l = some { cls := .type "list", dict := odict, data := .seq items nl, slots := oslots } := Heap.get?_push_of_some _ hol
          have hsls := F.sub_list_set
          have hslf := F.sub_list_frozenset
          have hne : (Value.type "list" == Value.type "dict") = false := by decide
          have hl1 : (s.heap.push { cls := .type "set", dict := none, data := .set #[] 0 (.fresh 0 0 (!w.params.followText "set-order")) }).IsList l items := ⟨_, hol', rfl, nl, rfl⟩
          unfold Builtin.«set.__init__» noKeywords Builtin.Frozenset.updateFrom
          generalize hPI : pyIter = PI
          wp_walk
          subst hPI
          refine wpAny_pyIter_list hl1 ?_
          refine wpAny_bind (wpAny_runValue ?_)
          refine set_update_tx ((Walks.list hh3 _ l hneI items).toS) s.heap.objs.size
            hSf xs hisz hb hval (items.size - 0) 0 _ (by omega) (Nat.zero_le _)
            ⟨⟨_, Heap.get?_push_size _ rfl, rfl, rfl⟩, (hl1.push _)⟩ ?hS0 ?hR
          case hS0 => exact txR_new (Heap.get?_push_of_some _ hS)
          case hR =>
            intro s' hm hS'
            obtain ⟨h', g2, d', tk', os'⟩ := s'
            have eg : g2 = s.gens := hm.gens
            have ed : d' = s.drawn := hm.drawn
            have eo : os' = s.os := hm.os
            subst eg; subst ed; subst eo
            show wpAny _ _ _ _ _ _
            refine wpAny_pure ?_
            show wpAny _ _ (ret Value.none) _ _ _
            refine wpAny_pure ⟨rfl, h', tk', rfl, hS', fun b o e => ?_⟩
            have hb0 : b < s.heap.objs.size := Heap.lt_size e
            have hb1 : b ≠ s.heap.objs.size := Nat.ne_of_lt hb0
            have hb2 : b ≠ (s.heap.push { cls := .type "set", dict := none, data := .set #[] 0 (.fresh 0 0 (!w.params.followText "set-order")) }).objs.size := by
              rw [Heap.size_push]; exact Nat.ne_of_lt (Nat.lt_succ_of_lt hb0)
            exact hm.heap b o (by simp only [List.mem_cons, List.mem_singleton, List.not_mem_nil, or_false, not_or]; exact ⟨hb1, hb2⟩) (Heap.get?_push_of_some _ (Heap.get?_push_of_some _ e))
      · cases r₂ with
        | error e => exact hr₂
        | ok fl₂ =>
          cases fl₂ with
          | ret r =>
            obtain ⟨rfl, h', tk, rfl, hS', hk'⟩ := hr₂
            repeat (any_goals (first | assumption | wp_step))
            exact h _ _ hS' hk'
          | _ => exact hr₂.elim
    | _ => exact hr.elim
theorem perm_of {α : Type} [BEq α] [LawfulBEq α] : ∀ {l m : List α}, l.Nodup → (∀ k ∈ l, k ∈ m) → m.length ≤ l.length → m.Perm l
  | [], m, _, _, h => by
    cases m with
    | nil => exact .refl _
    | cons x m => exact absurd h (Nat.not_succ_le_zero _)
  | k :: r, m, nd, sub, h => by
    have hk := sub k List.mem_cons_self
    have p := List.perm_cons_erase hk
    obtain ⟨n1, n2⟩ := List.nodup_cons.mp nd
    have h2 : (m.erase k).length ≤ r.length := by
      have := p.length_eq
      rw [List.length_cons] at this h
      omega
    refine p.trans (.cons k (perm_of n2 (fun j hj => ?_) h2))
    have hm := p.mem_iff.mp (sub j (List.mem_cons_of_mem _ hj))
    rcases List.mem_cons.mp hm with z | z
    · exact absurd (z ▸ hj) n1
    · exact z
theorem strs_of : ∀ (l : List Value), (∀ v ∈ l, ∃ k tk, v = Value.str k tk) → StrsAre l (l.map strOf)
  | [], _ => .nil
  | v :: l, h => by
    obtain ⟨k, tk, rfl⟩ := h v List.mem_cons_self
    exact .cons k tk (strs_of l fun u hu => h u (List.mem_cons_of_mem _ hu))
theorem sorted_tx {Q : Value → Shared → Prop} (R : TxR P w s.heap a l) (hh : A.handled = none) (hb : l.length + 1 < scanBound)
    (hQ : ∀ s' p (out : Array Value) (c : Nat) (ys : List PySem.Str), (∀ b o, s.heap.get? b = some o → s'.heap.get? b = some o) → s'.gens = s.gens → s'.os = s.os → s.heap.objs.size ≤ p →
      s'.heap.get? p = some (seqObj "list" out c) → StrsAre out.toList ys → ys.Perm l → sortedS ys = true → Q (.ref p) s') :
    wpAny (model P w) A (call (.builtin "sorted") [.ref a]) Q E s := by
  obtain ⟨⟨es, ep, t⟩, ho, F, nd, hr, hl⟩ := R
  have hsz : es.size = l.length := F.sz
  have hbS : es.size < scanBound := by omega
  refine Calls.call_function_entry kind_sorted plain_sorted entry_sorted (args_sorted1 _) ?_
  unfold Builtin.«sorted»
  refine wpAny_bind (m := checkCount "sorted" 1 1 _) (wpAny_pure ?_)
  refine wpAny_bind (collect_set (A := A.in1) hh ⟨_, ho, rfl, rfl⟩ F.fit hbS hr hl fun s1 vs k1 hz g1 o1 pm => ?_)
  have hvl : vs.length = l.length := by rw [pm.length_eq, List.length_map, Array.length_toList]; exact hsz
  have hvs : ∀ v ∈ vs, ∃ k tk, v = Value.str k tk ∧ k ∈ l := fun v hv => by
    obtain ⟨e, he, q⟩ := List.mem_map.mp (pm.mem_iff.mp hv)
    obtain ⟨⟨k, hk, _⟩, _⟩ := F.el e he
    obtain ⟨tk, e2⟩ : ∃ tk, e.2 = Value.str k tk := by
      revert hk
      show Value.isStrOf k e.2 = true → _
      cases e.2 <;> simp [Value.isStrOf]
    exact ⟨k, tk, by rw [← q]; exact e2, (F.mem k).mpr ⟨e, he, hk⟩⟩
  have hI : StrsAre vs (vs.map strOf) := strs_of vs fun v hv => by
    obtain ⟨k, tk, e, _⟩ := hvs v hv
    exact ⟨k, tk, e⟩
  have pk : (vs.map strOf).Perm l := by
    have hmem : ∀ k, k ∈ vs.map strOf ↔ k ∈ l := fun k => by
      constructor
      · intro h
        obtain ⟨v, hv, q⟩ := List.mem_map.mp h
        obtain ⟨k', tk, rfl, hk⟩ := hvs v hv
        rw [← q]; exact hk
      · intro h
        obtain ⟨e, he, z⟩ := (F.mem k).mp h
        have hv : e.2 ∈ vs := pm.mem_iff.mpr (List.mem_map.mpr ⟨e, he, rfl⟩)
        obtain ⟨k', tk, e2, hk⟩ := hvs e.2 hv
        have z2 : Value.isStrOf k e.2 = true := z
        rw [e2] at z2
        have e3 : k' = k := by simpa [Value.isStrOf] using z2
        exact List.mem_map.mpr ⟨e.2, hv, by rw [e2, ← e3]; rfl⟩
    exact perm_of nd (fun k hk => (hmem k).mpr hk) (by rw [List.length_map, hvl]; exact Nat.le_refl _)
  have hvl2 : vs.length ≤ sizeLine := by rw [hvl]; exact fits_of_scanBound (by omega)
  refine wpAny_bind (wpAny_newList ?_ hvl2)
  have hoL : (s1.heap.push (seqObj "list" vs.toArray 0)).get? s1.heap.objs.size = some (seqObj "list" vs.toArray 0) := Heap.get?_push_size _ rfl
  refine wpAny_bind (wpAny_holding (wpAny_call_entry slot_list_sort ⟨_, hoL, rfl⟩ entry_list_sort
    (list_sort_treeKAny strKind_oneLt hoL hI.keysOf (fun v₁ v₂ rest e => keyKind_strs (by rw [← e]; exact hI)) hvl2 fun st' hp hs => ?_) (args_list_sort _)))
  obtain ⟨ys, y1, y2, y3⟩ := sorted_out_str hI hp hs
  obtain ⟨c, hc⟩ := sortedHeap_at (vs := vs) (out := (arrOf st').map (·.2)) hoL
  refine ⟨_, rfl, wpAny_pure ⟨_, rfl, hQ _ s1.heap.objs.size _ c ys (fun b u e => ?_) g1 o1 hz hc y1 (y2.trans pk) y3⟩⟩
  have q := k1 b u e
  have hlt := Heap.lt_size q
  show (sortedHeap (s1.heap.push (seqObj "list" vs.toArray 0)) s1.heap.objs.size vs _).get? b = some u
  rw [sortedHeap_old (Nat.ne_of_lt hlt) (by rw [size_push']; exact Nat.lt_succ_of_lt hlt)]
  exact Heap.get?_push_of_some _ q
end
end DL
/-! sorted(set(texts)), len(set(texts)) over the data. -/
namespace DL
open PySem PySem.Spec PyProof.Rows L2
theorem S_inj {x y : List Nat} (h : S x = S y) : x = y := by
  have h1 : (⟨x.toArray⟩ : PySem.Str) = ⟨y.toArray⟩ := h
  injection h1 with h2
  have := congrArg Array.toList h2
  simpa using this
theorem S_cps (x : List Nat) : (S x).cps.toList = x := by
  show x.toArray.toList = x
  rfl
def ad (l : List (List Nat)) (k : List Nat) : List (List Nat) := if k ∈ l then l else k :: l
def adAll (l : List (List Nat)) : List (List Nat) → List (List Nat)
  | [] => l
  | k :: r => adAll (ad l k) r
/-- each text once -/
def dd (xs : List (List Nat)) : List (List Nat) := adAll [] xs
theorem mem_mapS {l : List (List Nat)} {k : List Nat} : S k ∈ l.map S ↔ k ∈ l := by
  constructor
  · intro h
    obtain ⟨j, hj, e⟩ := List.mem_map.mp h
    exact S_inj e ▸ hj
  · exact fun h => List.mem_map.mpr ⟨k, h, rfl⟩
theorem addL_S (l : List (List Nat)) (k : List Nat) : addL (l.map S) (S k) = (ad l k).map S := by
  unfold addL ad
  by_cases h : k ∈ l
  · rw [if_pos h, if_pos (mem_mapS.mpr h)]
  · rw [if_neg h, if_neg (fun z => h (mem_mapS.mp z))]
    rfl
theorem addAll_S : ∀ (r l : List (List Nat)), addAll (l.map S) (r.map S) = (adAll l r).map S
  | [], l => rfl
  | k :: r, l => by
    rw [List.map_cons, addAll, adAll, addL_S, addAll_S]
theorem dd_S (xs : List (List Nat)) : addAll [] (xs.map S) = (dd xs).map S := addAll_S xs []
theorem adAll_mem : ∀ {r l : List (List Nat)} {j : List Nat}, j ∈ adAll l r ↔ j ∈ l ∨ j ∈ r
  | [], l, j => by simp [adAll]
  | k :: r, l, j => by
    rw [adAll, adAll_mem, List.mem_cons, or_assoc.symm]
    have : j ∈ ad l k ↔ j ∈ l ∨ j = k := by
      unfold ad
      split
      · rename_i h
        exact ⟨.inl, fun z => z.elim id fun e => e ▸ h⟩
      · rw [List.mem_cons]; exact Or.comm
    rw [this]
theorem dd_mem {xs : List (List Nat)} {j : List Nat} : j ∈ dd xs ↔ j ∈ xs := by
  unfold dd
  rw [adAll_mem]
  simp
theorem adAll_nodup : ∀ {r l : List (List Nat)}, l.Nodup → (adAll l r).Nodup
  | [], l, h => h
  | k :: r, l, h => by
    refine adAll_nodup (r := r) (l := ad l k) ?_
    unfold ad
    split
    · exact h
    · rename_i n
      exact List.nodup_cons.mpr ⟨n, h⟩
theorem dd_nodup (xs : List (List Nat)) : (dd xs).Nodup := adAll_nodup List.nodup_nil
theorem adAll_len : ∀ {r l : List (List Nat)}, (adAll l r).length ≤ l.length + r.length ∧ ((adAll l r).length = l.length + r.length ↔ r.Nodup ∧ ∀ k ∈ r, k ∉ l)
  | [], l => ⟨Nat.le_refl _, by simp [adAll]⟩
  | k :: r, l => by
    have ih := adAll_len (r := r) (l := ad l k)
    rw [adAll, List.length_cons]
    have el : (ad l k).length = if k ∈ l then l.length else l.length + 1 := by
      unfold ad
      split <;> rfl
    by_cases h : k ∈ l
    · rw [if_pos h] at el
      refine ⟨by omega, fun z => by omega, fun z => ?_⟩
      exact absurd h (z.2 k List.mem_cons_self)
    · rw [if_neg h] at el
      refine ⟨by omega, ?_⟩
      have e1 : ((adAll (ad l k) r).length = l.length + (r.length + 1)) ↔ ((adAll (ad l k) r).length = (ad l k).length + r.length) := by omega
      rw [e1, ih.2, List.nodup_cons]
      have em : ∀ j, j ∈ ad l k ↔ j ∈ l ∨ j = k := fun j => by
        unfold ad
        rw [if_neg h, List.mem_cons]; exact Or.comm
      constructor
      · rintro ⟨n, hh⟩
        refine ⟨⟨fun z => hh k z ((em k).mpr (.inr rfl)), n⟩, fun j hj => ?_⟩
        rcases List.mem_cons.mp hj with rfl | hj
        · exact h
        · exact fun z => hh j hj ((em j).mpr (.inl z))
      · rintro ⟨⟨n1, n2⟩, hh⟩
        refine ⟨n2, fun j hj z => ?_⟩
        rcases (em j).mp z with z | z
        · exact hh j (List.mem_cons_of_mem _ hj) z
        · exact n1 (z ▸ hj)
theorem dd_len (xs : List (List Nat)) : (dd xs).length ≤ xs.length ∧ ((dd xs).length = xs.length ↔ xs.Nodup) := by
  have h := adAll_len (r := xs) (l := [])
  rw [List.length_nil, Nat.zero_add] at h
  refine ⟨h.1, h.2.trans ⟨fun z => z.1, fun z => ⟨z, fun _ _ q => by cases q⟩⟩⟩
/-- by the order of the texts -/
def sset (xs : List (List Nat)) : List (List Nat) := (dd xs).mergeSort fun a b => decide (a ≤ b)
theorem le_tot (a b : List Nat) : (decide (a ≤ b) || decide (b ≤ a)) = true := by
  rcases List.le_total a b with h | h <;> simp [h]
theorem le_tr (a b c : List Nat) (h1 : decide (a ≤ b) = true) (h2 : decide (b ≤ c) = true) : decide (a ≤ c) = true := by
  simp at *
  exact List.le_trans h1 h2
theorem sset_perm (xs : List (List Nat)) : (sset xs).Perm (dd xs) := List.mergeSort_perm _ _
theorem sset_sorted (xs : List (List Nat)) : (sset xs).Pairwise fun a b => a ≤ b := by
  have h := List.pairwise_mergeSort (le := fun a b : List Nat => decide (a ≤ b)) le_tr le_tot (dd xs)
  exact h.imp fun z => by simpa using z
theorem sset_mem {xs : List (List Nat)} {j : List Nat} : j ∈ sset xs ↔ j ∈ xs := (sset_perm xs).mem_iff.trans dd_mem
theorem sorted_one {α : Type} {r : α → α → Prop} (anti : ∀ a b, r a b → r b a → a = b) : ∀ {xs ys : List α}, xs.Pairwise r → ys.Pairwise r → xs.Perm ys → xs = ys
  | [], ys, _, _, p => (List.nil_perm.mp p).symm
  | x :: xs, [], _, _, p => absurd (List.perm_nil.mp p) (by simp)
  | x :: xs, y :: ys, h1, h2, p => by
    obtain ⟨a1, b1⟩ := List.pairwise_cons.mp h1
    obtain ⟨a2, b2⟩ := List.pairwise_cons.mp h2
    have e : x = y := by
      rcases List.mem_cons.mp (p.mem_iff.mp (List.mem_cons_self (a := x) (l := xs))) with z | z
      · exact z
      · rcases List.mem_cons.mp (p.mem_iff.mpr (List.mem_cons_self (a := y) (l := ys))) with q | q
        · exact q.symm
        · exact anti x y (a1 y q) (a2 x z)
    subst e
    rw [sorted_one anti b1 b2 (List.Perm.cons_inv p)]
theorem le_anti (a b : List Nat) (h1 : a ≤ b) (h2 : b ≤ a) : a = b := List.le_antisymm h1 h2
theorem rising_pair : ∀ {p : PySem.Str} {l : List PySem.Str}, risingS p l = true → (p :: l).Pairwise fun a b => a.cps.toList ≤ b.cps.toList
  | p, [], _ => List.pairwise_singleton _ _
  | p, x :: r, h => by
    rw [risingS, Bool.and_eq_true] at h
    have ih := rising_pair h.2
    have px : p.cps.toList ≤ x.cps.toList := by
      have q := h.1
      rw [ltCps_eq] at q
      simpa using q
    refine List.pairwise_cons.mpr ⟨fun y hy => ?_, ih⟩
    rcases List.mem_cons.mp hy with rfl | hy
    · exact px
    · exact List.le_trans px ((List.pairwise_cons.mp ih).1 y hy)
theorem sortedS_pair {l : List PySem.Str} (h : sortedS l = true) : l.Pairwise fun a b => a.cps.toList ≤ b.cps.toList := by
  cases l with
  | nil => exact .nil
  | cons x r => exact rising_pair h
theorem sset_of {ys : List PySem.Str} {xs : List (List Nat)} (p : ys.Perm ((dd xs).map S)) (h : sortedS ys = true) : ys = (sset xs).map S := by
  have q : ((sset xs).map S).Pairwise fun a b => a.cps.toList ≤ b.cps.toList := by
    rw [List.pairwise_map]
    exact (sset_sorted xs).imp fun z => by rw [S_cps, S_cps]; exact z
  refine sorted_one (fun a b h1 h2 => ?_) (sortedS_pair h) q (p.trans ((sset_perm xs).map S).symm)
  have e := le_anti _ _ h1 h2
  obtain ⟨⟨a⟩⟩ := a
  obtain ⟨⟨b⟩⟩ := b
  have e2 : a = b := e
  rw [e2]

/-! ### the rules -/
def SetT (P : Program) (w : World) (a : Addr) (l : List PySem.Str) : HO := .ext fun h => TxR P w h a l
section
variable {X : Cx}
theorem setT_new {w : World} {P : Program} {H : Hp} {h : Heap} {a : Addr} {l : List PySem.Str} (R : TxR P w h a l) : ObjOk P w H h a (SetT P w a l) := by
  have ⟨D, ho, _⟩ := R
  exact ⟨R, ⟨_, ho⟩, fun h1 h2 p k => TxR.at p k⟩
theorem setT_get {pins : List (Addr × Obj)} {σ : L2.St} {H : Hp} {s : Shared} {a : Addr} {l : List PySem.Str} (I : Inv X pins σ H s) (ha : H a = some (SetT X.prog X.w a l)) : TxR X.prog X.w s.heap a l := (I.hok a _ ha).1
def rSetT (X : Cx) : List V → Hp → VK → Prop := fun vs H Q => ∃ (a : Addr) (xs : List PySem.Str), vs = [V.ref a] ∧ (SqL X.K H a (xs.map V.str) ∨ SqT X.K H a (xs.map V.str)) ∧ xs.length + 1 < scanBound ∧
  ∀ p, H p = none → Q (.ref p) (upd H p (SetT X.prog X.w p (addAll [] xs)))
theorem cr_setT (hc : X.calm = true) : CallR X (.type "set") (rSetT X) := by
  intro pins s σ H vs us Q I r h
  obtain ⟨a, xs, rfl, hq, hb, q⟩ := h
  rw [Vals.ref1 r]
  have go : ∀ its : List Value, Vals (xs.map V.str) its → (s.heap.IsTuple a its.toArray ∨ s.heap.IsList a its.toArray) → wpAny (model X.prog X.w) X.A (call (.type "set") [.ref a]) (EP X pins σ Q) X.xe s := fun its rv hl => by
    refine call_set_tup xs (I.ok.hd hc) hl (strsAre_of rv) hb fun h' tk R k => ?_
    have hn : H s.heap.objs.size = none := I.hok.fresh (Nat.le_refl _)
    have J : Inv X pins σ (upd H s.heap.objs.size (SetT X.prog X.w s.heap.objs.size (addAll [] xs))) { s with heap := h', toks := tk } := I.laid k (Nat.le_refl _) (setT_new R)
    exact ⟨.ref s.heap.objs.size, _, J, rfl, q _ hn⟩
  rcases hq with hq | hq
  · obtain ⟨its, rv, hl, _⟩ := I.list hq
    exact go its rv (.inr hl.isList)
  · obtain ⟨its, rv, hl, _⟩ := I.tuple hq
    exact go its rv (.inl hl)
def rSortT (X : Cx) : List V → Hp → VK → Prop := fun vs H Q => ∃ (a : Addr) (l : List PySem.Str), vs = [V.ref a] ∧ H a = some (SetT X.prog X.w a l) ∧ l.length + 1 < scanBound ∧
  ∀ (ys : List PySem.Str) (p : Addr), ys.Perm l → sortedS ys = true → H p = none → Q (.ref p) (upd H p (.lst (ys.map V.str)))
theorem cr_sortT (hc : X.calm = true) : CallR X (.builtin "sorted") (rSortT X) := by
  intro pins s σ H vs us Q I r h
  obtain ⟨a, l, rfl, ha, hb, q⟩ := h
  rw [Vals.ref1 r]
  refine sorted_tx (setT_get I ha) (I.ok.hd hc) hb fun s' p out c ys k g o hp hg hi hpm hs => ?_
  have hlen : (ys.map V.str).length ≤ sizeLine := by
    rw [List.length_map, hpm.length_eq]
    exact fits_of_scanBound (by omega)
  have hn : H p = none := I.hok.fresh hp
  have J : Inv X pins σ (upd H p (.lst (ys.map V.str))) { s with heap := s'.heap, gens := s'.gens, drawn := s'.drawn, toks := s'.toks } :=
    I.call (ch := []) (Un.laid k hp hn) (I.hok.laid k hp ⟨hlen, out.toList, c, vals_of_strs hi, hg⟩) (by rw [g]; exact I.bare) (fun _ z => nomatch z)
  have e : s' = { s with heap := s'.heap, gens := s'.gens, drawn := s'.drawn, toks := s'.toks } := by
    cases s'
    cases s
    cases o
    rfl
  rw [e]
  exact ⟨.ref p, _, J, rfl, q ys p hpm hs hn⟩
def rLenT (X : Cx) : List V → Hp → VK → Prop := fun vs H Q => ∃ (a : Addr) (l : List PySem.Str), vs = [V.ref a] ∧ H a = some (SetT X.prog X.w a l) ∧ l.length + 1 < scanBound ∧ Q (.int l.length) H
theorem cr_lenT : CallR X (.builtin "len") (rLenT X) := by
  intro pins s σ H vs us Q I r h
  obtain ⟨a, l, rfl, ha, hb, q⟩ := h
  rw [Vals.ref1 r]
  obtain ⟨⟨es, ep, t⟩, ho, F, _⟩ := setT_get I ha
  have hsz : es.size = l.length := F.sz
  have hf : t.fits es.size = true := F.fit
  refine call_len_set ho (es := es) (ep := ep) (t := t) ⟨rfl, rfl, rfl⟩ rfl hf (by rw [hsz]; unfold scanBound at hb; omega) ⟨.int l.length, H, I.tok _, ⟨_, by rw [hsz]⟩, q⟩
end
section
variable {X : Cx} {E : WX} {e : Expr} {pos p p2 p3 : Pos} {K : PySem.W.Frag}
/-- the texts of a list or tuple -/
def txtsOf : Option D → Option (List (List Nat))
  | some (.lst ds) => D.strL ds
  | some (.tup ds) => D.strL ds
  | _ => none
def wSSet (w : WD) : WD := fun δ n P PX => w δ n (fun n1 r => ∃ ys, txtsOf (vw δ r) = some ys ∧ ys.length + 1 < scanBound ∧ P n1 (.n ((sset ys).map .str))) PX
def wLSet (w : WD) : WD := fun δ n P PX => w δ n (fun n1 r => ∃ ys, txtsOf (vw δ r) = some ys ∧ ys.length + 1 < scanBound ∧ P n1 (.d (.int (dd ys).length))) PX
theorem txts_at {δ : List Sl} {σ : L2.St} {E0 H0 Kn H : Hp} {n : Gh} (s : StOk K δ σ E0 Kn H n) {r : Rs} {v : V} {ys : List (List Nat)} (h : Rep K H0 Kn H σ r v) (e : txtsOf (vw δ r) = some ys) :
    ∃ a, v = .ref a ∧ (SqL K H a ((ys.map S).map V.str) ∨ SqT K H a ((ys.map S).map V.str)) ∧ ∀ c ∈ ys, okS c = true := by
  cases q : vw δ r with
  | none => rw [q] at e; cases e
  | some x =>
    have hv := Rep.vw s h q
    rw [q] at e
    cases x with
    | lst ds =>
      have e : D.strL ds = some ys := e
      have e := D.strL_eq e
      subst e
      obtain ⟨a, vs, rfl, _, h1, h2⟩ := hv
      obtain ⟨rfl, h3⟩ := Dts.strs_v h2
      refine ⟨a, rfl, .inl ?_, h3⟩
      rw [List.map_map]
      exact SqL.of h1
    | tup ds =>
      have e : D.strL ds = some ys := e
      have e := D.strL_eq e
      subst e
      obtain ⟨a, vs, rfl, h1, h2⟩ := hv
      obtain ⟨rfl, h3⟩ := Dts.strs_v h2
      refine ⟨a, rfl, .inr ?_, h3⟩
      rw [List.map_map]
      exact sqT_kno s.kno h1
    | _ => cases e
theorem dd_okS {ys : List (List Nat)} (h : ∀ c ∈ ys, okS c = true) : ∀ c ∈ sset ys, okS c = true := fun c hc => h c (sset_mem.mp hc)
theorem dd_le (ys : List (List Nat)) : (dd ys).length ≤ ys.length := (dd_len ys).1
theorem pd_sset {w : WD} (hc : X.calm = true) (hg : Gl X "sorted") (hm : X.mg "sorted" = none) (hg2 : Gl X "set") (hm2 : X.mg "set" = none) (h : PD X E e w)
    (hv : bootBuiltins "sorted" = some (.builtin "sorted") := by first | exact PySem.boot_sorted | decide +kernel) (hv2 : bootBuiltins "set" = some (.type "set") := by first | exact PyProof.Rows.boot_set | decide +kernel)
    (hs : starEach [e] X.env = (false, eval e X.env) :: starEach [] X.env := by rfl) (hpl : (backTo p3 (starEach [] X.env)).any (·.1) = false := by rfl)
    (hs2 : starEach [.Call (.Name "set" p2) [e] [] p3] X.env = (false, eval (.Call (.Name "set" p2) [e] [] p3) X.env) :: starEach [] X.env := by rfl) (hpl2 : (backTo pos (starEach [] X.env)).any (·.1) = false := by rfl) :
    PD X E (.Call (.Name "sorted" p) [.Call (.Name "set" p2) [e] [] p3] [] pos) (wSSet w) := by
  obtain ⟨te, h1, h2⟩ := h
  refine ⟨_, pe_callB (cr_sortT hc) hg hm hv (pa_cons (pe_callTy (cr_setT hc) hg2 hm2 hv2 (pa_cons h1 pa_nil hs) (by decide) (by decide) hs hpl) pa_nil hs2) (by decide) (by decide) hs2 hpl2, fun δ n P PX w σ H0 Kn H s Q k x => ?_⟩
  refine h2 δ n _ PX w σ H0 Kn H s _ (fun n1 r v K1 H1 g1 q rp => ?_) x
  obtain ⟨ys, e1, hl, q⟩ := q
  obtain ⟨a, rfl, hq, ok⟩ := txts_at (s.gr g1) rp e1
  refine ⟨a, ys.map S, rfl, hq, by rw [List.length_map]; exact hl, fun p hp => ?_⟩
  rw [dd_S]
  have hdl := dd_le ys
  refine ⟨p, _, rfl, upd_same, by rw [List.length_map]; omega, fun zs l hpm hsrt hn => ?_⟩
  have ez := sset_of hpm hsrt
  subst ez
  have npl : l ≠ p := fun z => by rw [z, upd_same] at hn; cases hn
  rw [upd_ne npl] at hn
  have sm : Same H1 (upd (upd H1 p (SetT X.prog X.w p ((dd ys).map S))) l (.lst (((sset ys).map S).map V.str))) := fun b o z => by
    rw [upd_ne (ne_of_none z hn), upd_ne (ne_of_none z hp)]
    exact z
  have hd : Dts X.K K1 ((sset ys).map .str) (((sset ys).map S).map V.str) := by
    rw [List.map_map]
    exact Dts.strs (sset ys) (dd_okS ok)
  exact k n1 _ _ K1 _ (g1.trans (Gr.ext g1.kh sm)) q ⟨l, _, rfl, g1.ha l hn, g1.kh.free hn, upd_same, hd⟩
theorem pd_lset {w : WD} (hc : X.calm = true) (hg : Gl X "len") (hm : X.mg "len" = none) (hg2 : Gl X "set") (hm2 : X.mg "set" = none) (h : PD X E e w)
    (hv : bootBuiltins "len" = some (.builtin "len") := by first | exact PySem.boot_len | decide +kernel) (hv2 : bootBuiltins "set" = some (.type "set") := by first | exact PyProof.Rows.boot_set | decide +kernel)
    (hs : starEach [e] X.env = (false, eval e X.env) :: starEach [] X.env := by rfl) (hpl : (backTo p3 (starEach [] X.env)).any (·.1) = false := by rfl)
    (hs2 : starEach [.Call (.Name "set" p2) [e] [] p3] X.env = (false, eval (.Call (.Name "set" p2) [e] [] p3) X.env) :: starEach [] X.env := by rfl) (hpl2 : (backTo pos (starEach [] X.env)).any (·.1) = false := by rfl) :
    PD X E (.Call (.Name "len" p) [.Call (.Name "set" p2) [e] [] p3] [] pos) (wLSet w) := by
  obtain ⟨te, h1, h2⟩ := h
  refine ⟨_, pe_callB cr_lenT hg hm hv (pa_cons (pe_callTy (cr_setT hc) hg2 hm2 hv2 (pa_cons h1 pa_nil hs) (by decide) (by decide) hs hpl) pa_nil hs2) (by decide) (by decide) hs2 hpl2, fun δ n P PX w σ H0 Kn H s Q k x => ?_⟩
  refine h2 δ n _ PX w σ H0 Kn H s _ (fun n1 r v K1 H1 g1 q rp => ?_) x
  obtain ⟨ys, e1, hl, q⟩ := q
  obtain ⟨a, rfl, hq, ok⟩ := txts_at (s.gr g1) rp e1
  refine ⟨a, ys.map S, rfl, hq, by rw [List.length_map]; exact hl, fun p hp => ?_⟩
  rw [dd_S]
  have hdl := dd_le ys
  refine ⟨p, _, rfl, upd_same, by rw [List.length_map]; omega, ?_⟩
  rw [List.length_map]
  have sm : Same H1 (upd H1 p (SetT X.prog X.w p ((dd ys).map S))) := fun b o z => by
    rw [upd_ne (ne_of_none z hp)]
    exact z
  exact k n1 _ _ K1 _ (g1.trans (Gr.ext g1.kh sm)) q rfl
end
end DL
/-! The data layer, part u: defs by name, constants, freezing as needed. -/
namespace DL
open PySem PySem.Spec PyProof.Rows L2
/-- a def of the top -/
structure Df (K : PySem.W.Frag) (mg : PySem.Str → Option Value) (x : PySem.Str) (st : Stmt) (ps : List PySem.Str) where
  f : Addr
  fd : FuncData
  F : Fun K x x st f fd
  b : Binds K fd ps []
  m : mg x = some (.ref f)
/-- a method of a class -/
structure Mf (K : PySem.W.Frag) (C : Addr) (x qual : PySem.Str) (st : Stmt) (ps : List PySem.Str) where
  f : Addr
  fd : FuncData
  F : Fun K x qual st f fd
  b : Binds K fd ps []
  m : Meth K C x f
abbrev DOk (P : Program) (wd : World) (K : PySem.W.Frag) (mg : PySem.Str → Option Value) (base : Heap) {x : PySem.Str} {st : Stmt} {ps : List PySem.Str} (k : Nat) (d : Df K mg x st ps) (F : FW) : Prop := FnOk P wd K mg base (L2.CX P wd) k d.f d.fd ps (spOf ps.length K F)
abbrev MOk (P : Program) (wd : World) (K : PySem.W.Frag) (mg : PySem.Str → Option Value) (base : Heap) {C : Addr} {x q : PySem.Str} {st : Stmt} {ps : List PySem.Str} (k : Nat) (d : Mf K C x q st ps) (F : FW) : Prop := FnOk P wd K mg base (L2.CX P wd) k d.f d.fd ps (spOf ps.length K F)
section
variable {X : Cx} {E : WX} {e o : Expr} {es : List Expr} {pos p apos : Pos} {k m : Nat} {F : FW} {x : PySem.Str} {st : Stmt} {ps : List PySem.Str} {wa : WA} {w : WD}
theorem pd_df (d : Df X.K X.mg x st ps) (G : DOk X.prog X.w X.K X.mg X.base k d F) (hr : Room k X.A) (hg : Gl X x) (ha : AD X E (e :: es) wa)
    (hdb : (x == ("__debug__" : PySem.Str)) = false := by decide) (he : starEach (e :: es) X.env = (false, eval e X.env) :: starEach es X.env := by rfl) (hpl : (backTo pos (starEach es X.env)).any (·.1) = false := by rfl) (hml : ps.length = m := by rfl) : PD X E (.Call (.Name x p) (e :: es) [] pos) (wFn F m wa) := by
  subst hml
  exact pd_call G hr hg d.m d.F.kp d.b ha hdb he hpl
theorem pd_dfB (d : Df X.K X.mg x st ps) (G : DOk X.prog X.w X.K X.mg X.base k d F) (hr : Room k X.A) (hg : Gl X x) (ha : AD X E (e :: es) wa)
    (hdb : (x == ("__debug__" : PySem.Str)) = false := by decide) (he : starEach (e :: es) X.env = (false, eval e X.env) :: starEach es X.env := by rfl) (hpl : (backTo pos (starEach es X.env)).any (·.1) = false := by rfl) (hml : ps.length = m := by rfl) : PD X E (.Call (.Name x p) (e :: es) [] pos) (wFnB F m wa) := by
  subst hml
  exact pd_callB_ G hr hg d.m d.F.kp d.b ha hdb he hpl
theorem pd_dfX (tk : Takes X E) (d : Df X.K X.mg x st ps) (G : DOk X.prog X.w X.K X.mg X.base k d F) (hr : Room k X.A) (hg : Gl X x) (ha : AD X E (e :: es) wa)
    (hdb : (x == ("__debug__" : PySem.Str)) = false := by decide) (he : starEach (e :: es) X.env = (false, eval e X.env) :: starEach es X.env := by rfl) (hpl : (backTo pos (starEach es X.env)).any (·.1) = false := by rfl) (hml : ps.length = m := by rfl) : PD X E (.Call (.Name x p) (e :: es) [] pos) (wFnX F m wa) := by
  subst hml
  exact pd_callX tk G hr hg d.m d.F.kp d.b ha hdb he hpl
/-- module constants -/
theorem pd_gstr (cs : List Nat) (hg : Gl X x) (h : ∃ t, X.mg x = some (.str (S cs) t)) (ok : okS cs = true) (hd : (x == ("__debug__" : PySem.Str)) = false := by decide) : PD X E (.Name x pos) (wC (.str cs)) := by
  obtain ⟨t, h⟩ := h
  exact pd_glob (v := .str (S cs)) hg h ⟨t, rfl⟩ (fun Kn => ⟨rfl, ok⟩) hd
theorem pd_gint (i : Int) (hg : Gl X x) (h : ∃ t, X.mg x = some (.int i t)) (hd : (x == ("__debug__" : PySem.Str)) = false := by decide) : PD X E (.Name x pos) (wC (.int i)) := by
  obtain ⟨t, h⟩ := h
  exact pd_glob (v := .int i) hg h ⟨t, rfl⟩ (fun Kn => rfl) hd
/-- a constant tuple of texts -/
def TupC (K : PySem.W.Frag) (mg : PySem.Str → Option Value) (x : PySem.Str) (ys : List (List Nat)) : Prop := ∃ a, mg x = some (.ref a) ∧ (∀ H, SqT K H a (ys.map fun c => V.str (S c))) ∧ ∀ c ∈ ys, okS c = true
theorem pd_gtup (ys : List (List Nat)) (hg : Gl X x) (h : TupC X.K X.mg x ys) (hd : (x == ("__debug__" : PySem.Str)) = false := by decide) : PD X E (.Name x pos) (wC (.tup (ys.map .str))) := by
  obtain ⟨a, h1, h2, h3⟩ := h
  exact pd_glob (v := .ref a) hg h1 rfl (fun Kn => ⟨a, _, rfl, h2 Kn, Dts.strs ys h3⟩) hd
/-- a slot is a datum from now on, if it was an own list -/
def frzS (δ : List Sl) (i : Nat) : List Sl := match δ[i]? with
  | some (.l xs) => δ.set i (.d (.lst xs))
  | _ => δ
def wFz (i : Nat) (w : WS) : WS := fun δ n po => w (frzS δ i) n po
theorem sds_fz (i : Nat) {sts : List Stmt} {w : WS} (h : Sds X E sts w) : Sds X E sts (wFz i w) := by
  obtain ⟨t, h1, h2⟩ := h
  refine ⟨t, h1, fun δ n po w => ?_⟩
  have w : _ := w
  unfold wFz frzS at w
  cases q : δ[i]? with
  | none => rw [q] at w; exact h2 δ n po w
  | some s =>
    rw [q] at w
    cases s with
    | u => exact h2 δ n po w
    | d x => exact h2 δ n po w
    | l xs =>
      intro σ K0 E0 Kn H s g Dn kk
      obtain ⟨p, vs, s', e0, hq, kq⟩ := s.freeze q
      refine h2 _ n po w σ K0 E0 _ H s' (g.learn e0 hq kq rfl) Dn (kk.later fun a o z => ?_)
      rw [upd_ne (ne_of_none z kq)]; exact z
end
end DL
namespace DL
open PySem PySem.Spec PyProof.Rows L2
abbrev gSub : G2 := gI (fun _ _ => True) fun i j => i - j
abbrev gDiv : G2 := gI CDiv fun i j => i / j
abbrev gMod : G2 := gI (fun _ j => 0 < j) fun i j => i % j
abbrev gPow : G2 := gI CPow fun i j => i ^ j.toNat
abbrev gLt : G2 := gB fun i j => decide (i < j)
abbrev gLe : G2 := gB fun i j => decide (i ≤ j)
abbrev gGt : G2 := gB fun i j => decide (j < i)
abbrev gGe : G2 := gB fun i j => decide (j ≤ i)
abbrev wTrue : WT := fun _ n P _ => P n true
theorem pd_negc {X : Cx} {E : WX} {i : Int} {j : Nat} {p pos : Pos} : PD X E (.UnaryOp .USub (.Constant (.int i) j p) pos) (wC (.int (-i))) :=
  ⟨_, pe_un un_neg pe_int, fun δ n P PX w σ E0 Kn H s Q k _ => ⟨i, rfl, k n _ _ Kn H (Gr.refl s.kno) w rfl⟩⟩
end DL
/-! The data layer, part v: what simp needs to read a reading. -/
namespace DL
open PySem PySem.Spec PyProof.Rows L2
theorem tyS_non : D.non.tyS = some "NoneType" := rfl
theorem tyS_bl (b) : (D.bl b).tyS = some "bool" := rfl
theorem tyS_int (i) : (D.int i).tyS = some "int" := rfl
theorem tyS_str (x) : (D.str x).tyS = some "str" := rfl
theorem tyS_tup (x) : (D.tup x).tyS = some "tuple" := rfl
theorem tyS_lst (x) : (D.lst x).tyS = some "list" := rfl
theorem tyS_dct (x) : (D.dct x).tyS = some "dict" := rfl
theorem kitB_1 : kitB "str" "str" = some true := by decide +kernel
theorem kitB_2 : kitB "tuple" "tuple" = some true := by decide +kernel
theorem kitB_3 : kitB "list" "list" = some true := by decide +kernel
theorem kitB_4 : kitB "tuple" "str" = some false := by decide +kernel
theorem kitB_5 : kitB "str" "tuple" = some false := by decide +kernel
theorem kitB_6 : kitB "int" "int" = some true := by decide +kernel
theorem kitB_7 : kitB "bool" "int" = some true := by decide +kernel
theorem kitB_8 : kitB "list" "str" = some false := by decide +kernel
theorem kitB_9 : kitB "int" "str" = some false := by decide +kernel
theorem kitB_10 : kitB "NoneType" "str" = some false := by decide +kernel
theorem kitB_11 : kitB "list" "tuple" = some false := by decide +kernel
theorem kitB_12 : kitB "int" "tuple" = some false := by decide +kernel
theorem kitB_13 : kitB "NoneType" "tuple" = some false := by decide +kernel
theorem kitB_14 : kitB "bool" "str" = some false := by decide +kernel
theorem kitB_15 : kitB "bool" "tuple" = some false := by decide +kernel
theorem kitB_16 : kitB "str" "int" = some false := by decide +kernel
theorem kitB_17 : kitB "tuple" "int" = some false := by decide +kernel
theorem kitB_18 : kitB "list" "int" = some false := by decide +kernel
theorem kitB_19 : kitB "bool" "bool" = some true := by decide +kernel
theorem kitB_20 : kitB "int" "bool" = some false := by decide +kernel
theorem kitB_21 : kitB "tuple" "list" = some false := by decide +kernel
theorem kitB_22 : kitB "str" "list" = some false := by decide +kernel
section
variable {δ : List Sl} {P : Rs → Prop} {Q : Prop}
theorem gIsi_e {x : D} {T : String} : gIsi [x, .ty T] P ↔ ∃ t b, x.tyS = some t ∧ kitB t T = some b ∧ P (.d (.bl b)) := by
  constructor
  · rintro ⟨x', T', t, b, e, h⟩
    cases e
    exact ⟨t, b, h⟩
  · rintro ⟨t, b, h⟩
    exact ⟨x, T, t, b, rfl, h⟩
theorem vw_d (x) : vw δ (.d x) = some x := rfl
theorem vw_n (x) : vw δ (.n x) = some (.lst x) := rfl
theorem vw_b (i) : vw δ (.b i) = Sl.lst δ[i]? := rfl
theorem lst_l (x) : Sl.lst (some (.l x)) = some (.lst x) := rfl
theorem val_d (i) (x) : Sl.val i (some (.d x)) = some (.d x) := rfl
theorem val_l (i) (x) : Sl.val i (some (.l x)) = some (.b i) := rfl
theorem arg_d (x) : Rs.arg (.d x) = .d x := rfl
theorem arg_n (x) : Rs.arg (.n x) = .d (.lst x) := rfl
theorem arg_b (i) : Rs.arg (.b i) = .b i := rfl
theorem dat_d (x) : Rs.dat (.d x) = some x := rfl
theorem dat_n (x) : Rs.dat (.n x) = some (.lst x) := rfl
theorem dat_b (x) : Rs.dat (.b x) = none := rfl
theorem out_d (x) : Rs.out δ (.d x) = some (.d x) := rfl
theorem out_n (x) : Rs.out δ (.n x) = some (.n x) := rfl
theorem out_b (i) : Rs.out δ (.b i) = match δ[i]? with
    | some (.l xs) => some (.n xs)
    | _ => none := rfl
theorem out_bl {i : Nat} {xs : List D} (h : δ[i]? = some (.l xs)) : Rs.out δ (.b i) = some (.n xs) := by rw [out_b, h]
theorem vwA_d (x) : vwA δ (.d x) = some x := rfl
theorem vwA_b (i) : vwA δ (.b i) = Sl.lst δ[i]? := rfl
theorem vwAs_nil : vwAs δ [] = some [] := rfl
theorem vwAs_d (x r) : vwAs δ (.d x :: r) = (vwAs δ r).map (x :: ·) := by
  show (match some x, vwAs δ r with
    | some x, some xs => some (x :: xs)
    | _, _ => none) = _
  cases vwAs δ r <;> rfl
theorem vwAs_b (i r) : vwAs δ (.b i :: r) = match Sl.lst δ[i]?, vwAs δ r with
    | some x, some xs => some (x :: xs)
    | _, _ => none := rfl
theorem ardat_nil : Ar.dat [] = some [] := rfl
theorem ardat_d (x r) : Ar.dat (.d x :: r) = (Ar.dat r).map (x :: ·) := rfl
theorem txts_l (ds) : txtsOf (some (.lst ds)) = D.strL ds := rfl
theorem txts_t (ds) : txtsOf (some (.tup ds)) = D.strL ds := rfl
theorem seq_l (xs) : D.seq (.lst xs) = some xs := rfl
theorem seq_t (xs) : D.seq (.tup xs) = some xs := rfl
theorem seq_f (ns) : D.seq (.frl ns) = some (ns.map .int) := rfl
theorem seq_s (x) : D.seq (.str x) = some (x.map fun c => .str [c]) := rfl
theorem put_d (δ : List Sl) (i x) : put δ i (.d x) = some (δ.set i (.d x)) := rfl
theorem put_n (δ : List Sl) (i xs) : put δ i (.n xs) = some (δ.set i (.l xs)) := rfl
theorem truth_str (x) : (D.str x).truth = some (!x.isEmpty) := rfl
theorem truth_bl (x) : (D.bl x).truth = some x := rfl
theorem truth_tup (x) : (D.tup x).truth = some (!x.isEmpty) := rfl
theorem truth_lst (x) : (D.lst x).truth = some (!x.isEmpty) := rfl
theorem sfit_str (x) : strFit (.str x) ↔ x.length ≤ sizeLine := Iff.rfl
theorem sfit_bl (x) : strFit (.bl x) ↔ True := Iff.rfl
theorem sfit_tup (x) : strFit (.tup x) ↔ True := Iff.rfl
theorem sfit_lst (x) : strFit (.lst x) ↔ True := Iff.rfl
end
theorem frz_l {δ : List Sl} {i : Nat} {xs : List D} (h : δ[i]? = some (.l xs)) : frzS δ i = δ.set i (.d (.lst xs)) := by unfold frzS; rw [h]
theorem frz_d {δ : List Sl} {i : Nat} {x : D} (h : δ[i]? = some (.d x)) : frzS δ i = δ := by unfold frzS; rw [h]
theorem frz_u {δ : List Sl} {i : Nat} (h : δ[i]? = some .u) : frzS δ i = δ := by unfold frzS; rw [h]
/-! equality of data -/
theorem eqv_int (i j : Int) : (D.int i).eqv (.int j) = (i == j) := by
  unfold D.eqv
  simp [D.py, PyData.eqv]
theorem eqv_str (x y : List Nat) : (D.str x).eqv (.str y) = (x == y) := by
  unfold D.eqv
  have : (S x == S y) = (x == y) := by
    by_cases h : x = y
    · subst h; simp
    · rw [beq_eq_false_iff_ne.mpr h, beq_eq_false_iff_ne.mpr fun e => h (S_inj e)]
  simp [D.py, PyData.eqv, this]
theorem eqv_bl (i j : Bool) : (D.bl i).eqv (.bl j) = (i == j) := by
  unfold D.eqv
  simp [D.py, PyData.eqv]
theorem eqv_self {x : D} (h : x.py.canLay0 = true) : x.eqv x = true := PySem.SeqAt.eqv_refl _ h
theorem plain_str (x) : (D.str x).plain = true := rfl
theorem plain_int (x) : (D.int x).plain = true := rfl
theorem plain_bl (x) : (D.bl x).plain = true := rfl
theorem plain_non : D.non.plain = true := rfl
theorem plain_tup (xs) : (D.tup xs).plain = D.plains xs := by rw [D.plain]
theorem plain_lst (xs) : (D.lst xs).plain = D.plains xs := by rw [D.plain]
theorem plains_nil : D.plains [] = true := by rw [D.plains]
theorem plains_cons (x xs) : D.plains (x :: xs) = (x.plain && D.plains xs) := by rw [D.plains]
theorem py_str (x) : (D.str x).py = .str (S x) := by rw [D.py]
theorem py_int (x) : (D.int x).py = .int x := by rw [D.py]
theorem py_bl (x) : (D.bl x).py = .bool x := by rw [D.py]
theorem py_non : D.non.py = .none := by rw [D.py]
theorem py_tup (xs) : (D.tup xs).py = .tuple (D.pys xs) := by rw [D.py]
theorem py_lst (xs) : (D.lst xs).py = .list (D.pys xs) := by rw [D.py]
theorem pys_nil : D.pys [] = [] := by rw [D.pys]
theorem pys_cons (x xs) : D.pys (x :: xs) = x.py :: D.pys xs := by rw [D.pys]
theorem dep_str (x) : (PyData.str x).depth = 0 := by rw [PyData.depth]
theorem dep_int (x) : (PyData.int x).depth = 0 := by rw [PyData.depth]
theorem dep_bl (x) : (PyData.bool x).depth = 0 := by rw [PyData.depth]
theorem dep_non : PyData.none.depth = 0 := by rw [PyData.depth]
theorem dep_tup (xs) : (PyData.tuple xs).depth = PyData.depthAll xs + 1 := by rw [PyData.depth]
theorem dep_lst (xs) : (PyData.list xs).depth = PyData.depthAll xs + 1 := by rw [PyData.depth]
theorem depA_nil : PyData.depthAll [] = 0 := by rw [PyData.depthAll]
theorem depA_cons (x xs) : PyData.depthAll (x :: xs) = max x.depth (PyData.depthAll xs) := by rw [PyData.depthAll]
theorem flat_str (x) : flatD (.str x) = true := rfl
theorem flat_int (x) : flatD (.int x) = true := rfl
theorem atI_0 {α : Type} (x : α) (r : List α) : atI (x :: r) 0 = some x := by
  unfold atI ixN
  have h : (0 : Int) < ((x :: r).length : Nat) := by simp only [List.length_cons]; omega
  rw [if_pos (by decide), if_pos h]
  rfl
theorem atI_1 {α : Type} (x y : α) (r : List α) : atI (x :: y :: r) 1 = some y := by
  unfold atI ixN
  have h : (1 : Int) < ((x :: y :: r).length : Nat) := by simp only [List.length_cons]; omega
  rw [if_pos (by decide), if_pos h]
  rfl
theorem atI_2 {α : Type} (x y z : α) (r : List α) : atI (x :: y :: z :: r) 2 = some z := by
  unfold atI ixN
  have h : (2 : Int) < ((x :: y :: z :: r).length : Nat) := by simp only [List.length_cons]; omega
  rw [if_pos (by decide), if_pos h]
  rfl
theorem atI_of {α : Type} {xs : List α} {i : Int} (h0 : 0 ≤ i) (h1 : i < xs.length) : ∃ z, atI xs i = some z ∧ xs[i.toNat]? = some z := by
  unfold atI ixN
  rw [if_pos h0, if_pos h1]
  have : i.toNat < xs.length := by omega
  exact ⟨xs[i.toNat], by simp [this], by simp [this]⟩
theorem strL_nil : D.strL [] = some [] := rfl
theorem strL_cons (x r) : D.strL (.str x :: r) = (D.strL r).map (x :: ·) := rfl
theorem cut_from {α : Type} (xs : List α) (k : Nat) : cutL xs (some (k : Int)) none = xs.drop k := by
  unfold cutL
  rw [HT.sIx_nat, HT.sIx_none]
  by_cases h : k ≤ xs.length
  · rw [Nat.min_eq_left h, List.take_of_length_le (by rw [List.length_drop]; omega)]
  · rw [Nat.min_eq_right (by omega), List.drop_length, List.drop_eq_nil_of_le (by omega)]
    simp
theorem cut_from1 {α : Type} (xs : List α) : cutL xs (some 1) none = xs.drop 1 := cut_from xs 1
theorem cut_from2 {α : Type} (xs : List α) : cutL xs (some 2) none = xs.drop 2 := cut_from xs 2
/-! a comprehension whose items are said by a function -/
theorem lc_fm {α : Type} {xs : List α} {emb : α → D} {g : α → Option D} {n : Gh} {P : Gh → List D → Prop} {body : D → Gh → (Gh → D → Prop) → (Gh → Prop) → Prop} (hl : (xs.map emb).length ≤ sizeLine)
    (h : ∀ x ∈ xs, ∀ K1 K0, (∀ y, g x = some y → K1 n y) → (g x = none → K0 n) → body (emb x) n K1 K0) (hP : P n (xs.filterMap g)) :
    (xs.map emb).length ≤ sizeLine ∧ ∃ I : Nat → Gh → List D → Prop, I 0 n [] ∧ (∀ i m acc d, (xs.map emb)[i]? = some d → acc.length ≤ i → I i m acc → body d m (fun m3 y => I (i + 1) m3 (acc ++ [y])) (fun m2 => I (i + 1) m2 acc)) ∧
      ∀ m acc, I (xs.map emb).length m acc → P m acc := by
  refine ⟨hl, fun i m acc => m = n ∧ acc = (xs.take i).filterMap g, ⟨rfl, rfl⟩, fun i m acc d hd hl ⟨e1, e2⟩ => ?_, fun m acc ⟨e1, e2⟩ => ?_⟩
  · subst e1 e2
    rw [List.getElem?_map] at hd
    cases q : xs[i]? with
    | none => rw [q] at hd; cases hd
    | some x =>
      rw [q] at hd
      cases hd
      have et : xs.take (i + 1) = xs.take i ++ [x] := by rw [List.take_add_one, q]; rfl
      refine h x (List.mem_of_getElem? q) _ _ (fun y hy => ⟨rfl, ?_⟩) fun hn => ⟨rfl, ?_⟩
      · rw [et, List.filterMap_append]
        simp [hy]
      · rw [et, List.filterMap_append]
        simp [hn]
  · subst e1 e2
    rw [List.length_map, List.take_length]
    exact hP
section
variable {P : Rs → Prop}
theorem gLen_s (z) : gLen [.str z] P ↔ z.length ≤ sizeLine ∧ P (.d (.int z.length)) := Iff.rfl
theorem gLen_l (z) : gLen [.lst z] P ↔ P (.d (.int z.length)) := Iff.rfl
theorem gLen_t (z) : gLen [.tup z] P ↔ P (.d (.int z.length)) := Iff.rfl
theorem gLen_f (z) : gLen [.frl z] P ↔ P (.d (.int z.length)) := Iff.rfl
theorem gAdd_i (i j) : gAdd (.int i) (.int j) P ↔ P (.d (.int (i + j))) := Iff.rfl
theorem gAdd_s (a b) : gAdd (.str a) (.str b) P ↔ a.length + b.length ≤ sizeLine ∧ P (.d (.str (a ++ b))) := Iff.rfl
theorem gAdd_l (a b) : gAdd (.lst a) (.lst b) P ↔ a.length + b.length ≤ sizeLine ∧ P (.n (a ++ b)) := Iff.rfl
theorem gAdd_t (a b) : gAdd (.tup a) (.tup b) P ↔ a.length + b.length ≤ sizeLine ∧ P (.d (.tup (a ++ b))) := Iff.rfl
theorem gMul_i (i j) : gMul (.int i) (.int j) P ↔ CMul i j ∧ P (.d (.int (i * j))) := Iff.rfl
theorem gMul_l (a j) : gMul (.lst a) (.int j) P ↔ (-(2 ^ 63) ≤ j ∧ j < 2 ^ 63 ∧ a.length * j.toNat ≤ sizeLine) ∧ P (.n (List.replicate j.toNat a).flatten) := Iff.rfl
theorem gIx_l (xs i) : gIx (.lst xs) (.int i) P ↔ ∃ z, atI xs i = some z ∧ P (.d z) := Iff.rfl
theorem gIx_t (xs i) : gIx (.tup xs) (.int i) P ↔ ∃ z, atI xs i = some z ∧ P (.d z) := Iff.rfl
theorem gIx_f (xs i) : gIx (.frl xs) (.int i) P ↔ ∃ z, atI xs i = some z ∧ P (.d (.int z)) := Iff.rfl
theorem gIx_s (x i) : gIx (.str x) (.int i) P ↔ x.length ≤ sizeLine ∧ ∃ z, atI x i = some z ∧ P (.d (.str [z])) := Iff.rfl
theorem gSl_l (xs lo hi) : gSl (.lst xs) lo hi P ↔ P (.n (cutL xs lo hi)) := Iff.rfl
theorem gSl_f (xs lo hi) : gSl (.frl xs) lo hi P ↔ P (.n ((cutL xs lo hi).map .int)) := Iff.rfl
theorem gSl_t (xs lo hi) : gSl (.tup xs) lo hi P ↔ P (.d (.tup (cutL xs lo hi))) := Iff.rfl
theorem gSl_s (x lo hi) : gSl (.str x) lo hi P ↔ x.length ≤ sizeLine ∧ P (.d (.str (cutL x lo hi))) := Iff.rfl
theorem gInt_i (i) : gInt [.int i] P ↔ P (.d (.int i)) := Iff.rfl
theorem gInt_b (b) : gInt [.bl b] P ↔ P (.d (.int (if b then 1 else 0))) := Iff.rfl
theorem gList_l (x) : gList [.lst x] P ↔ P (.n x) := Iff.rfl
theorem gList_t (x) : gList [.tup x] P ↔ P (.n x) := Iff.rfl
theorem gTuple_l (x) : gTuple [.lst x] P ↔ P (.d (.tup x)) := Iff.rfl
theorem gTuple_t (x) : gTuple [.tup x] P ↔ P (.d (.tup x)) := Iff.rfl
theorem gIn_s (neg x z) : gIn neg x (.str z) P ↔ ∃ c, x = .str [c] ∧ P (.d (.bl (if neg then !decide (c ∈ z) else decide (c ∈ z)))) := Iff.rfl
theorem gIn_l (neg x ys) : gIn neg x (.lst ys) P ↔ x.plain = true ∧ D.plains ys = true ∧ x.py.depth ≤ 64 ∧ PyData.depthAll (D.pys ys) < 64 ∧ P (.d (.bl (if neg then !(ys.any fun z => z.eqv x) else ys.any fun z => z.eqv x))) := Iff.rfl
theorem gIn_t (neg x ys) : gIn neg x (.tup ys) P ↔ flatD x = true ∧ ys.all flatD = true ∧ P (.d (.bl (if neg then !(ys.any fun z => z.eqv x) else ys.any fun z => z.eqv x))) := Iff.rfl
theorem gIsN_e (neg x) : gIsN neg x .non P ↔ P (.d (.bl (if neg then !x.isN else x.isN))) := ⟨fun h => h.2, fun h => ⟨rfl, h⟩⟩
theorem gI_e {C f} (i j) : gI C f (.int i) (.int j) P ↔ C i j ∧ P (.d (.int (f i j))) := ⟨fun ⟨_, _, e1, e2, h⟩ => by cases e1; cases e2; exact h, fun h => ⟨i, j, rfl, rfl, h⟩⟩
theorem gB_e {f} (i j) : gB f (.int i) (.int j) P ↔ P (.d (.bl (f i j))) := ⟨fun ⟨_, _, e1, e2, h⟩ => by cases e1; cases e2; exact h, fun h => ⟨i, j, rfl, rfl, h⟩⟩
theorem gAll_e (ds) : gAll [.lst ds] P ↔ ds.all D.isB = true ∧ P (.d (.bl (ds.all D.tru))) := ⟨fun ⟨_, e, h⟩ => by cases e; exact h, fun h => ⟨ds, rfl, h⟩⟩
theorem gAny_e (ds) : gAny [.lst ds] P ↔ ds.all D.isB = true ∧ P (.d (.bl (ds.any D.tru))) := ⟨fun ⟨_, e, h⟩ => by cases e; exact h, fun h => ⟨ds, rfl, h⟩⟩
theorem isN_non : D.non.isN = true := rfl
theorem isN_str (x) : (D.str x).isN = false := rfl
theorem isN_tup (x) : (D.tup x).isN = false := rfl
theorem isN_int (x) : (D.int x).isN = false := rfl
theorem isN_bl (x) : (D.bl x).isN = false := rfl
theorem isN_lst (x) : (D.lst x).isN = false := rfl
end
end DL
namespace DL
open PySem PySem.Spec PyProof.Rows L2
def w_is_name : WS :=
  (wSeq (wIfS (wOrT (wNot (wTest (wCall gIsi (wCons (wVar 0) (wCons (wC (.ty "str")) wNil))))) (wNot (wTest (wChain gLe gLe (wC (.int 1)) (wCall gLen (wCons (wVar 0) wNil)) (wC (.int 8))))))
  (wRet (wC (.bl false)))
  wEnd)
  (wRet (wCall gAll (wCons (wLc (wIt (wVar 0)) (wgN 1) wTrue (wOp (gIn false) (wVar 1) (wC (.str (q "abcdefghijklmnopqrstuvwxyz")))) [1]) wNil))))
def w_is_sign (F_is_name : FW) : WS :=
  (wRet (wOrA (wFn F_is_name 1 (wCons (wVar 0) wNil)) (wAndV (wCall gIsi (wCons (wVar 0) (wCons (wC (.ty "str")) wNil))) (wOp gEq (wVar 0) (wC (.str (q ".")))))))
def w_is_part_name (F_is_name : FW) : WS :=
  (wRet (wAndV (wFn F_is_name 1 (wCons (wVar 0) wNil)) (wOp (gIn true) (wVar 0) (wC (.tup ([(q "stop"), (q "part"), (q "ahead"), (q "pick"), (q "offer"), (q "beside"), (q "hide"), (q "rename")].map .str))))))
def w_plans_in : WS :=
  (wSeq (wIfS (wTest (wOp (gIn false) (wOp gIx (wVar 0) (wC (.int 0))) (wC (.tup ([(q "pick"), (q "offer")].map .str)))))
  (wRet (wCall gList (wCons (wSl (wVar 0) (wPart (wC (.int 1))) wPart0) wNil)))
  wEnd)
  (wRet (wCall gList (wCons (wSl (wVar 0) (wPart (wC (.int 2))) wPart0) wNil))))
def w_names_text : WS :=
  (wRet (wIfE (wTest (wOp gGt (wCall gLen (wCons (wVar 0) wNil)) (wC (.int 0)))) (wJoin (wC (.str (q ","))) (wCall gList (wCons (wVar 0) wNil))) (wC (.str (q "-")))))
def w_words_of (F_names_text F_plans_in F_words_of : FW) : WS :=
  (wSeq (wSet 1 (wOp gIx (wVar 0) (wC (.int 0))))
  (wSeq (wIfS (wTest (wOp gEq (wVar 1) (wC (.str (q "part")))))
  (wRet (wLst (wCons (wOp gIx (wVar 0) (wC (.int 1))) wNil)))
  wEnd)
  (wSeq (wSet 2 (wLst (wCons (wVar 1) wNil)))
  (wSeq (wIfS (wTest (wOp gEq (wVar 1) (wC (.str (q "ahead")))))
  (wApp 2 (wOp gIx (wVar 0) (wC (.int 1))))
  wEnd)
  (wSeq (wIfS (wOrT (wTest (wOp gEq (wVar 1) (wC (.str (q "beside"))))) (wTest (wOp gEq (wVar 1) (wC (.str (q "hide"))))))
  (wApp 2 (wFn F_names_text 1 (wCons (wOp gIx (wVar 0) (wC (.int 1))) wNil)))
  wEnd)
  (wSeq (wIfS (wTest (wOp gEq (wVar 1) (wC (.str (q "rename")))))
  (wApp 2 (wFn F_names_text 1 (wCons (wLc (wIt (wOp gIx (wVar 0) (wC (.int 1)))) (wgTup 2 (wgCons (wgN 4) (wgCons (wgN 5) wgNil))) wTrue (wOp gAdd (wOp gAdd (wVar 4) (wC (.str (q ">")))) (wVar 5)) [4, 5]) wNil)))
  wEnd)
  (wSeq (wFor (wIt (wFn F_plans_in 1 (wCons (wVar 0) wNil))) (wgN 3)
  (wExt 2 (wFn F_words_of 1 (wCons (wVar 3) wNil))))
  (wRet (wVar 2)))))))))
def w_show_plan (F_words_of : FW) : WS :=
  (wRet (wJoin (wC (.str (q " "))) (wFn F_words_of 1 (wCons (wVar 0) wNil))))
def w_names_in (F_is_name : FW) : WS :=
  (wSeq (wIfS (wTest (wOp gEq (wVar 0) (wC (.str (q "-")))))
  (wRet (wTup wNil))
  wEnd)
  (wSeq (wSet 1 (wSplit (wVar 0) (wC (.str (q ",")))))
  (wFz 1 (wSeq (wIfS (wOrT (wNot (wTest (wCall gAll (wCons (wLc (wIt (wVar 1)) (wgN 2) wTrue (wFn F_is_name 1 (wCons (wVar 2) wNil)) [2]) wNil)))) (wTest (wOp gLt (wLSet (wVar 1)) (wCall gLen (wCons (wVar 1) wNil)))))
  (wRet (wC .non))
  wEnd)
  (wRet (wCall gTuple (wCons (wVar 1) wNil)))))))
def w_pairs_in (F_is_name : FW) : WS :=
  (wSeq (wIfS (wTest (wOp gEq (wVar 0) (wC (.str (q "-")))))
  (wRet (wTup wNil))
  wEnd)
  (wSeq (wSet 1 (wLst wNil))
  (wSeq (wFor (wIt (wSplit (wVar 0) (wC (.str (q ","))))) (wgN 2)
  (wSeq (wAsg (wPartn (wVar 2) (wC (.str (q ">")))) (wgTup 3 (wgCons (wgN 3) (wgCons (wgN 4) (wgCons (wgN 5) wgNil)))))
  (wSeq (wIfS (wOrT (wNot (wTest (wFn F_is_name 1 (wCons (wVar 3) wNil)))) (wNot (wTest (wFn F_is_name 1 (wCons (wVar 5) wNil)))))
  (wRet (wC .non))
  wEnd)
  (wApp 1 (wTup (wCons (wVar 3) (wCons (wVar 5) wNil)))))))
  (wFz 1 (wSeq (wIfS (wTest (wOp gLt (wLSet (wLc (wIt (wVar 1)) (wgN 6) wTrue (wOp gIx (wVar 6) (wC (.int 0))) [6])) (wCall gLen (wCons (wVar 1) wNil))))
  (wRet (wC .non))
  wEnd)
  (wRet (wCall gTuple (wCons (wVar 1) wNil))))))))
def w_read_plan (C : Addr) (F_PlanWords_plan_in F_PlanWords_ended : FW) : WS :=
  (wSeq (wIfS (wNot (wTest (wCall gIsi (wCons (wVar 0) (wCons (wC (.ty "str")) wNil)))))
  wNever
  wEnd)
  (wSeq (wSet 1 (wMakePW C (wCons (wSplit (wVar 0) (wC (.str (q " ")))) wNil)))
  (wSeq (wSet 2 (wMeth C F_PlanWords_plan_in 1 (wVar 1) wNil))
  (wSeq (wDrop (wMeth C F_PlanWords_ended 1 (wVar 1) wNil))
  (wRet (wVar 2))))))
def w_parts_from_left (F_plans_in F_parts_from_left : FW) : WS :=
  (wSeq (wIfS (wTest (wOp gEq (wOp gIx (wVar 0) (wC (.int 0))) (wC (.str (q "part")))))
  (wRet (wLst (wCons (wOp gIx (wVar 0) (wC (.int 1))) wNil)))
  wEnd)
  (wSeq (wSet 1 (wLst wNil))
  (wSeq (wFor (wIt (wFn F_plans_in 1 (wCons (wVar 0) wNil))) (wgN 2)
  (wExt 1 (wFn F_parts_from_left 1 (wCons (wVar 2) wNil))))
  (wRet (wVar 1)))))
def w_parts_of (F_parts_from_left : FW) : WS :=
  (wRet (wSSet (wFn F_parts_from_left 1 (wCons (wVar 0) wNil))))
def w__law_source_of : WS :=
  (wRet (wLst (wCons (wOp gMul (wVar 0) (wCall gInt (wCons (wOp gGe (wVar 0) (wOp gPow (wC (.int 10)) (wC (.int 18)))) wNil))) (wCons (wOp gMod (wVar 0) (wC (.int 2147483647))) (wCons (wC (.int 0)) wNil)))))
def w__law_next : WS :=
  (wSeq (wIfS (wTest (wOp gGt (wSrc (wVar 0) 0) (wC (.int 0))))
  (wSeq (wSet 4 (wOp gMod (wSrc (wVar 0) 0) (wVar 1)))
  (wSeq (wSrcPut 0 0 (wOp gDiv (wSrc (wVar 0) 0) (wVar 1)))
  (wRet (wVar 4))))
  wEnd)
  (wSeq (wSrcPut 2 0 (wOp gAdd (wSrc (wVar 0) 2) (wC (.int 1))))
  (wSeq (wSet 2 (wOp gIx (wLst (wCons (wC (.int 2147483647)) (wCons (wC (.int 2147483629)) (wCons (wC (.int 2147483587)) (wCons (wC (.int 2147483579)) (wCons (wC (.int 2147483563)) (wCons (wC (.int 2147483549)) (wCons (wC (.int 2147483543)) wNil)))))))) (wOp gMod (wSrc (wVar 0) 2) (wC (.int 7)))))
  (wSeq (wSet 3 (wOp gMod (wOp gPow (wOp gAdd (wOp gAdd (wSrc (wVar 0) 1) (wOp gMul (wC (.int 7919)) (wSrc (wVar 0) 2))) (wC (.int 1))) (wC (.int 5))) (wVar 2)))
  (wSeq (wSet 3 (wOp gMod (wOp gMul (wOp gAdd (wVar 3) (wSrc (wVar 0) 2)) (wOp gAdd (wOp gDiv (wVar 3) (wC (.int 1009))) (wC (.int 69621)))) (wVar 2)))
  (wRet (wOp gMod (wOp gDiv (wVar 3) (wC (.int 7))) (wVar 1))))))))
def w__law_one (F__law_next : FW) : WS :=
  (wRet (wOp gIx (wVar 1) (wFn F__law_next 2 (wCons (wVar 0) (wCons (wCall gLen (wCons (wVar 1) wNil)) wNil)))))
def w__law_word (F__law_next F__law_one : FW) : WS :=
  (wSeq (wIfS (wTest (wOp gEq (wFn F__law_next 2 (wCons (wVar 0) (wCons (wC (.int 3)) wNil))) (wC (.int 0))))
  (wRet (wFn F__law_one 2 (wCons (wVar 0) (wCons (wLst (wCons (wC (.str (q "a"))) (wCons (wC (.str (q "b"))) (wCons (wC (.str (q "ab"))) (wCons (wC (.str (q "stops"))) (wCons (wC (.str (q "parts"))) (wCons (wC (.str (q "zzzzzzzz"))) (wCons (wC (.str (q "picks"))) (wCons (wC (.str (q "wholes"))) (wCons (wC (.str (q "aa"))) (wCons (wC (.str (q "hides"))) wNil))))))))))) wNil))))
  wEnd)
  (wSeq (wSet 1 (wC (.str (q ""))))
  (wSeq (wFor (wRng1 (wCons (wFn F__law_one 2 (wCons (wVar 0) (wCons (wLst (wCons (wC (.int 0)) (wCons (wC (.int 1)) (wCons (wFn F__law_next 2 (wCons (wVar 0) (wCons (wC (.int 8)) wNil))) wNil)))) wNil))) wNil)) (wgN 2)
  (wSet 1 (wOp gAdd (wVar 1) (wOp gIx (wC (.str (q "abcdefghijklmnopqrstuvwxyz"))) (wFn F__law_next 2 (wCons (wVar 0) (wCons (wC (.int 26)) wNil)))))))
  (wRet (wOp gAdd (wVar 1) (wFn F__law_one 2 (wCons (wVar 0) (wCons (wLst (wCons (wC (.str (q "m"))) (wCons (wC (.str (q "x"))) (wCons (wC (.str (q "z"))) wNil)))) wNil))))))))
def w__law_names_of (F__law_word F__law_one : FW) : WS :=
  (wSeq (wSet 1 (wLst (wCons (wFn F__law_word 1 (wCons (wVar 0) wNil)) (wCons (wC (.str (q "stop"))) (wCons (wC (.str (q "c"))) (wCons (wFn F__law_word 1 (wCons (wVar 0) wNil)) (wCons (wC (.str (q "pick"))) (wCons (wC (.str (q "left"))) (wCons (wC (.str (q "part"))) (wCons (wC (.str (q "d"))) (wCons (wC (.str (q "e"))) (wCons (wC (.str (q "ff"))) wNil))))))))))))
  (wSeq (wSet 2 (wLst wNil))
  (wFz 1 (wSeq (wFor (wRng1 (wCons (wFn F__law_one 2 (wCons (wVar 0) (wCons (wLst (wCons (wC (.int 0)) (wCons (wC (.int 1)) (wCons (wC (.int 1)) (wCons (wC (.int 2)) (wCons (wC (.int 3)) (wCons (wC (.int 9)) wNil))))))) wNil))) wNil)) (wgN 3)
  (wSeq (wSet 4 (wFn F__law_one 2 (wCons (wVar 0) (wCons (wVar 1) wNil))))
  (wIfS (wTest (wOp (gIn true) (wVar 4) (wVar 2)))
  (wApp 2 (wVar 4))
  wEnd)))
  (wRet (wCall gTuple (wCons (wVar 2) wNil)))))))
def w__law_pairs_of (F__law_names_of F__law_word F__law_one : FW) : WS :=
  (wSeq (wSet 1 (wLst wNil))
  (wSeq (wFor (wIt (wFn F__law_names_of 1 (wCons (wVar 0) wNil))) (wgN 2)
  (wApp 1 (wTup (wCons (wVar 2) (wCons (wFn F__law_one 2 (wCons (wVar 0) (wCons (wLst (wCons (wFn F__law_word 1 (wCons (wVar 0) wNil)) (wCons (wC (.str (q "stop"))) (wCons (wVar 2) (wCons (wC (.str (q "d"))) wNil))))) wNil))) wNil)))))
  (wRet (wCall gTuple (wCons (wVar 1) wNil)))))
def w__law_plan (F__law_next F__law_word F__law_plan F__law_names_of F__law_pairs_of F__law_one : FW) : WS :=
  (wSeq (wSet 2 (wFn F__law_next 2 (wCons (wVar 0) (wCons (wC (.int 10)) wNil))))
  (wSeq (wIfS (wOrT (wTest (wOp gLt (wVar 1) (wC (.int 4)))) (wTest (wOp gLt (wVar 2) (wC (.int 2)))))
  (wRet (wOp gIx (wLst (wCons (wTup (wCons (wC (.str (q "stop"))) wNil)) (wCons (wTup (wCons (wC (.str (q "part"))) (wCons (wFn F__law_word 1 (wCons (wVar 0) wNil)) wNil))) wNil))) (wCall gInt (wCons (wOp gGt (wOp gMod (wVar 2) (wC (.int 4))) (wC (.int 0))) wNil))))
  wEnd)
  (wSeq (wIfS (wOrT (wTest (wOp gEq (wVar 2) (wC (.int 4)))) (wTest (wOp gEq (wVar 2) (wC (.int 5)))))
  (wSeq (wSet 4 (wFn F__law_plan 2 (wCons (wVar 0) (wCons (wOp gDiv (wOp gSub (wVar 1) (wC (.int 1))) (wC (.int 2))) wNil))))
  (wRet (wTup (wCons (wOp gIx (wLst (wCons (wC (.str (q "pick"))) (wCons (wC (.str (q "offer"))) wNil))) (wOp gSub (wVar 2) (wC (.int 4)))) (wCons (wVar 4) (wCons (wFn F__law_plan 2 (wCons (wVar 0) (wCons (wOp gDiv (wOp gSub (wVar 1) (wC (.int 1))) (wC (.int 2))) wNil))) wNil))))))
  wEnd)
  (wSeq (wIfS (wTest (wOp gEq (wVar 2) (wC (.int 6))))
  (wSeq (wSet 5 (wFn F__law_names_of 1 (wCons (wVar 0) wNil)))
  (wSeq (wSet 4 (wFn F__law_plan 2 (wCons (wVar 0) (wCons (wOp gDiv (wOp gSub (wVar 1) (wC (.int 2))) (wC (.int 2))) wNil))))
  (wRet (wTup (wCons (wC (.str (q "beside"))) (wCons (wVar 5) (wCons (wVar 4) (wCons (wFn F__law_plan 2 (wCons (wVar 0) (wCons (wOp gDiv (wOp gSub (wVar 1) (wC (.int 2))) (wC (.int 2))) wNil))) wNil))))))))
  wEnd)
  (wSeq (wIfS (wTest (wOp gEq (wVar 2) (wC (.int 7))))
  (wRet (wTup (wCons (wC (.str (q "hide"))) (wCons (wFn F__law_names_of 1 (wCons (wVar 0) wNil)) (wCons (wFn F__law_plan 2 (wCons (wVar 0) (wCons (wOp gSub (wVar 1) (wC (.int 2))) wNil))) wNil)))))
  wEnd)
  (wSeq (wIfS (wTest (wOp gEq (wVar 2) (wC (.int 8))))
  (wRet (wTup (wCons (wC (.str (q "rename"))) (wCons (wFn F__law_pairs_of 1 (wCons (wVar 0) wNil)) (wCons (wFn F__law_plan 2 (wCons (wVar 0) (wCons (wOp gSub (wVar 1) (wC (.int 2))) wNil))) wNil)))))
  wEnd)
  (wSeq (wSet 3 (wFn F__law_one 2 (wCons (wVar 0) (wCons (wLst (wCons (wC (.str (q "."))) (wCons (wFn F__law_word 1 (wCons (wVar 0) wNil)) (wCons (wC (.str (q "stop"))) (wCons (wC (.str (q "a"))) wNil))))) wNil))))
  (wRet (wTup (wCons (wC (.str (q "ahead"))) (wCons (wVar 3) (wCons (wFn F__law_plan 2 (wCons (wVar 0) (wCons (wOp gSub (wVar 1) (wC (.int 2))) wNil))) wNil))))))))))))
def w__law_words_of (F__law_words_of : FW) : WS :=
  (wSeq (wIfS (wTest (wOp gEq (wOp gIx (wVar 0) (wC (.int 0))) (wC (.str (q "part")))))
  (wRet (wLst (wCons (wOp gIx (wVar 0) (wC (.int 1))) wNil)))
  wEnd)
  (wSeq (wSet 1 (wLst (wCons (wOp gIx (wVar 0) (wC (.int 0))) wNil)))
  (wSeq (wSet 2 (wCall gList (wCons (wSl (wVar 0) (wPart (wC (.int 1))) wPart0) wNil)))
  (wSeq (wIfS (wTest (wOp (gIn false) (wOp gIx (wVar 0) (wC (.int 0))) (wTup (wCons (wC (.str (q "ahead"))) (wCons (wC (.str (q "beside"))) (wCons (wC (.str (q "hide"))) (wCons (wC (.str (q "rename"))) wNil)))))))
  (wSeq (wSetPop 4 2 (wC (.int 0)))
  (wSeq (wIfS (wTest (wOp gEq (wOp gIx (wVar 0) (wC (.int 0))) (wC (.str (q "rename")))))
  (wSet 4 (wLc (wIt (wVar 4)) (wgTup 2 (wgCons (wgN 5) (wgCons (wgN 6) wgNil))) wTrue (wOp gAdd (wOp gAdd (wVar 5) (wC (.str (q ">")))) (wVar 6)) [5, 6]))
  wEnd)
  (wSeq (wIfS (wTest (wOp gNe (wOp gIx (wVar 0) (wC (.int 0))) (wC (.str (q "ahead")))))
  (wSet 4 (wOrA (wJoin (wC (.str (q ","))) (wCall gList (wCons (wVar 4) wNil))) (wC (.str (q "-")))))
  wEnd)
  (wApp 1 (wVar 4)))))
  wEnd)
  (wFz 2 (wSeq (wFor (wIt (wVar 2)) (wgN 3)
  (wSet 1 (wOp gAdd (wVar 1) (wFn F__law_words_of 1 (wCons (wVar 3) wNil)))))
  (wRet (wVar 1))))))))
def w__law_inner : WS :=
  (wSeq (wIfS (wTest (wOp (gIn false) (wOp gIx (wVar 0) (wC (.int 0))) (wTup (wCons (wC (.str (q "stop"))) (wCons (wC (.str (q "part"))) wNil)))))
  (wRet (wLst wNil))
  wEnd)
  (wRet (wCall gList (wCons (wSl (wVar 0) (wPart (wOp gIx (wLst (wCons (wC (.int 2)) (wCons (wC (.int 1)) wNil))) (wCall gInt (wCons (wOp (gIn false) (wOp gIx (wVar 0) (wC (.int 0))) (wTup (wCons (wC (.str (q "pick"))) (wCons (wC (.str (q "offer"))) wNil)))) wNil)))) wPart0) wNil))))
def w__law_named (F__law_inner F__law_named : FW) : WS :=
  (wSeq (wIfS (wTest (wOp gEq (wOp gIx (wVar 0) (wC (.int 0))) (wC (.str (q "part")))))
  (wRet (wLst (wCons (wOp gIx (wVar 0) (wC (.int 1))) wNil)))
  wEnd)
  (wSeq (wSet 1 (wLst wNil))
  (wSeq (wFor (wIt (wFn F__law_inner 1 (wCons (wVar 0) wNil))) (wgN 2)
  (wSet 1 (wOp gAdd (wVar 1) (wFn F__law_named 1 (wCons (wVar 2) wNil)))))
  (wRet (wVar 1)))))
def w__law_tuples (F__law_tuples : FW) : WS :=
  (wSeq (wIfS (wTest (wCall gIsi (wCons (wVar 0) (wCons (wC (.ty "str")) wNil))))
  (wRet (wC (.bl true)))
  wEnd)
  (wRet (wAndV (wCall gIsi (wCons (wVar 0) (wCons (wC (.ty "tuple")) wNil))) (wCall gAll (wCons (wLc (wIt (wVar 0)) (wgN 1) wTrue (wFn F__law_tuples 1 (wCons (wVar 1) wNil)) [1]) wNil)))))
def w_law (F__law_source_of F__law_one F__law_plan F__law_words_of F_show_plan F_read_plan F__law_tuples F_parts_of F__law_named : FW) : WS :=
  (wSeq (wFor (wIt (wOp gAdd (wSl (wVar 0) wPart0 (wPart (wC (.int 10)))) (wLst (wCons (wC (.int 0)) (wCons (wC (.int 1)) wNil))))) (wgN 1)
  (wSeq (wSet 2 (wFn F__law_source_of 1 (wCons (wVar 1) wNil)))
  (wSeq (wSet 3 (wFn F__law_plan 2 (wCons (wVar 2) (wCons (wFn F__law_one 2 (wCons (wVar 2) (wCons (wLst (wCons (wC (.int 40)) (wCons (wC (.int 40)) (wCons (wC (.int 20)) (wCons (wC (.int 8)) wNil))))) wNil))) wNil))))
  (wSeq (wSet 4 (wJoin (wC (.str (q " "))) (wFn F__law_words_of 1 (wCons (wVar 3) wNil))))
  (wFor (wRng1 (wCons (wC (.int 2)) wNil)) (wgN 5)
  (wSeq (wIfS (wTest (wOp gNe (wFn F_show_plan 1 (wCons (wVar 3) wNil)) (wVar 4)))
  (wRet (wC (.bl false)))
  wEnd)
  (wSeq (wSet 6 (wFn F_read_plan 1 (wCons (wVar 4) wNil)))
  (wSeq (wIfS (wOrT (wTest (wOp gNe (wVar 6) (wVar 3))) (wOrT (wNot (wTest (wFn F__law_tuples 1 (wCons (wVar 6) wNil)))) (wTest (wOp gNe (wFn F_show_plan 1 (wCons (wVar 6) wNil)) (wVar 4)))))
  (wRet (wC (.bl false)))
  wEnd)
  (wSeq (wSet 7 (wFn F_parts_of 1 (wCons (wVar 3) wNil)))
  (wSeq (wIfS (wOrT (wNot (wTest (wCall gIsi (wCons (wVar 7) (wCons (wC (.ty "list")) wNil))))) (wTest (wOp gNe (wVar 7) (wSSet (wFn F__law_named 1 (wCons (wVar 3) wNil))))))
  (wRet (wC (.bl false)))
  wEnd)
  (wApp 7 (wC (.str (q "zz"))))))))))))))
  (wRet (wC (.bl true))))
def w_PlanWords_word (C : Addr) : WS :=
  (wSeq (wIfS (wTest (wOp gEq (wPwP C (wVar 0)) (wCall gMin (wCons (wCall gLen (wCons (wPwW C (wVar 0)) wNil)) (wCons (wC (.int 40)) wNil)))))
  wNever
  wEnd)
  (wSeq (wPwInc C 0)
  (wRet (wOp gIx (wPwW C (wVar 0)) (wOp gSub (wPwP C (wVar 0)) (wC (.int 1)))))))
def w_PlanWords_sure : WS :=
  (wSeq (wIfS (wTest (wOp (gIsN false) (wVar 1) (wC .non)))
  wNever
  wEnd)
  (wRet (wVar 1)))
def w_PlanWords_plan_in (C : Addr) (F_PlanWords_word F_is_part_name F_PlanWords_sure F_PlanWords_plan_in F_is_sign F_pairs_in F_names_in : FW) : WS :=
  (wSeq (wSet 1 (wMeth C F_PlanWords_word 1 (wVar 0) wNil))
  (wSeq (wIfS (wTest (wFn F_is_part_name 1 (wCons (wVar 1) wNil)))
  (wRet (wTup (wCons (wC (.str (q "part"))) (wCons (wVar 1) wNil))))
  wEnd)
  (wSeq (wDrop (wMeth C F_PlanWords_sure 2 (wVar 0) (wCons (wIfE (wOrT (wTest (wOp gEq (wVar 1) (wC (.str (q "part"))))) (wTest (wOp (gIn true) (wVar 1) (wC (.tup ([(q "stop"), (q "part"), (q "ahead"), (q "pick"), (q "offer"), (q "beside"), (q "hide"), (q "rename")].map .str)))))) (wC .non) (wVar 1)) wNil)))
  (wSeq (wIfS (wTest (wOp gEq (wVar 1) (wC (.str (q "stop")))))
  (wRet (wTup (wCons (wVar 1) wNil)))
  wEnd)
  (wSeq (wIfS (wTest (wOp (gIn false) (wVar 1) (wC (.tup ([(q "pick"), (q "offer")].map .str)))))
  (wSeq (wSet 4 (wMeth C F_PlanWords_plan_in 1 (wVar 0) wNil))
  (wRet (wTup (wCons (wVar 1) (wCons (wVar 4) (wCons (wMeth C F_PlanWords_plan_in 1 (wVar 0) wNil) wNil))))))
  wEnd)
  (wSeq (wSet 2 (wMeth C F_PlanWords_word 1 (wVar 0) wNil))
  (wSeq (wIfS (wTest (wOp gEq (wVar 1) (wC (.str (q "ahead")))))
  (wSet 3 (wTup (wCons (wVar 1) (wCons (wMeth C F_PlanWords_sure 2 (wVar 0) (wCons (wIfE (wTest (wFn F_is_sign 1 (wCons (wVar 2) wNil))) (wVar 2) (wC .non)) wNil)) wNil))))
  (wIfS (wTest (wOp gEq (wVar 1) (wC (.str (q "rename")))))
  (wSet 3 (wTup (wCons (wVar 1) (wCons (wMeth C F_PlanWords_sure 2 (wVar 0) (wCons (wFn F_pairs_in 1 (wCons (wVar 2) wNil)) wNil)) wNil))))
  (wSet 3 (wTup (wCons (wVar 1) (wCons (wMeth C F_PlanWords_sure 2 (wVar 0) (wCons (wFn F_names_in 1 (wCons (wVar 2) wNil)) wNil)) wNil))))))
  (wSeq (wSet 3 (wOp gAdd (wVar 3) (wTup (wCons (wMeth C F_PlanWords_plan_in 1 (wVar 0) wNil) wNil))))
  (wSeq (wIfS (wTest (wOp gEq (wVar 1) (wC (.str (q "beside")))))
  (wSet 3 (wOp gAdd (wVar 3) (wTup (wCons (wMeth C F_PlanWords_plan_in 1 (wVar 0) wNil) wNil))))
  wEnd)
  (wRet (wVar 3)))))))))))
def w_PlanWords_ended (C : Addr) : WS :=
  (wIfS (wTest (wOp gLt (wPwP C (wVar 0)) (wCall gLen (wCons (wPwW C (wVar 0)) wNil))))
  wNever
  wEnd)
end DL
/-! Plans as texts: what the defs make of plans. -/
namespace DL
open PySem PySem.Spec PyProof.Rows L2
theorem wIfS_T {wc : WT} {w1 w2 : WS} {δ : List Sl} {n : Gh} {po : Po} (h : ∀ P PX, wc δ n P PX ↔ P n true) : wIfS wc w1 w2 δ n po ↔ w1 δ n po := by
  unfold wIfS
  rw [h]
  simp
theorem wIfS_F {wc : WT} {w1 w2 : WS} {δ : List Sl} {n : Gh} {po : Po} (h : ∀ P PX, wc δ n P PX ↔ P n false) : wIfS wc w1 w2 δ n po ↔ w2 δ n po := by
  unfold wIfS
  rw [h]
  simp
theorem wIfE_T {wc : WT} {w1 w2 : WD} {δ : List Sl} {n : Gh} {P : Gh → Rs → Prop} {PX : PXT} (h : ∀ P PX, wc δ n P PX ↔ P n true) : wIfE wc w1 w2 δ n P PX ↔ w1 δ n P PX := by
  unfold wIfE
  rw [h]
  simp
theorem wIfE_F {wc : WT} {w1 w2 : WD} {δ : List Sl} {n : Gh} {P : Gh → Rs → Prop} {PX : PXT} (h : ∀ P PX, wc δ n P PX ↔ P n false) : wIfE wc w1 w2 δ n P PX ↔ w2 δ n P PX := by
  unfold wIfE
  rw [h]
  simp
theorem mem_strs (x : List Nat) (ys : List (List Nat)) : ((ys.map D.str).any fun z => z.eqv (.str x)) = decide (x ∈ ys) := by
  induction ys with
  | nil => simp
  | cons y ys ih =>
    rw [List.map_cons, List.any_cons, ih, eqv_str]
    by_cases h : x = y
    · subst h; simp
    · simp [h, Ne.symm h]
theorem wLc_fm {α : Type} {wi : WI} {wg : WG} {wt : WT} {we : WD} {vs : List Nat} {δ : List Sl} {n : Gh} {P : Gh → Rs → Prop} {PX : PXT} (xs : List α) (emb : α → D) (g : α → Option D) (hi : ∀ P' : Gh → List D → Prop, P' n (xs.map emb) → wi δ n P' PX) (hl : xs.length ≤ sizeLine)
    (h : ∀ x ∈ xs, ∀ (K1 : Gh → D → Prop) (K0 : Gh → Prop), (∀ y, g x = some y → K1 n y) → (g x = none → K0 n) → wg (emb x) (wipeD δ vs) fun δ2 => wt δ2 n (fun m2 b => (b = true → we δ2 m2 (fun m3 r => ∃ y, r.dat = some y ∧ K1 m3 y) PXF) ∧ (b = false → K0 m2)) PXF)
    (hP : P n (.n (xs.filterMap g))) : wLc wi wg wt we vs δ n P PX :=
  hi _ (lc_fm (P := fun m acc => P m (.n acc)) (body := fun d m K1 K0 => wg d (wipeD δ vs) fun δ2 => wt δ2 m (fun m2 b => (b = true → we δ2 m2 (fun m3 r => ∃ y, r.dat = some y ∧ K1 m3 y) PXF) ∧ (b = false → K0 m2)) PXF) (by rw [List.length_map]; exact hl) h hP)
theorem wLc_map {α : Type} {wi : WI} {wg : WG} {wt : WT} {we : WD} {vs : List Nat} {δ : List Sl} {n : Gh} {P : Gh → Rs → Prop} {PX : PXT} (xs : List α) (emb : α → D) (f : α → D) (hi : ∀ P' : Gh → List D → Prop, P' n (xs.map emb) → wi δ n P' PX) (hl : xs.length ≤ sizeLine)
    (h : ∀ x ∈ xs, ∀ (K1 : Gh → D → Prop), K1 n (f x) → ∀ K0 : Gh → Prop, wg (emb x) (wipeD δ vs) fun δ2 => wt δ2 n (fun m2 b => (b = true → we δ2 m2 (fun m3 r => ∃ y, r.dat = some y ∧ K1 m3 y) PXF) ∧ (b = false → K0 m2)) PXF)
    (hP : P n (.n (xs.map f))) : wLc wi wg wt we vs δ n P PX :=
  wLc_fm xs emb (fun x => some (f x)) hi hl (fun x hx K1 K0 h1 _ => h x hx K1 (h1 _ rfl) K0) (by rw [List.filterMap_eq_map']; exact hP)
theorem wFor_i {α : Type} {wi : WI} {wg : WG} {wb : WS} {δ : List Sl} {n : Gh} {po : Po} (xs : List α) (emb : α → D) (n1 : Gh) (I : Nat → List Sl → Gh → Prop) (hi : ∀ P' : Gh → List D → Prop, P' n1 (xs.map emb) → wi δ n P' po.px) (h0 : I 0 δ n1)
    (ht : ∀ i δ' m x, xs[i]? = some x → I i δ' m → wg (emb x) δ' fun δ2 => wb δ2 m { nx := I (i + 1), ct := I (i + 1), bk := po.nx, rt := po.rt, px := po.px }) (he : ∀ δ' m, I xs.length δ' m → po.nx δ' m) : wFor wi wg wb δ n po := by
  refine hi _ ⟨I, h0, fun i δ' m d hd inv => ?_, fun δ' m inv => he δ' m (by rwa [List.length_map] at inv)⟩
  rw [List.getElem?_map] at hd
  cases q : xs[i]? with
  | none => rw [q] at hd; cases hd
  | some x =>
    rw [q] at hd
    cases hd
    exact ht i δ' m x q inv
theorem wIfS_any {wc : WT} {w1 w2 : WS} {δ : List Sl} {n n' : Gh} {po : Po} (φ : Bool → Prop) (h : ∀ P : Gh → Bool → Prop, (∀ b, φ b → P n' b) → wc δ n P po.px) (h1 : φ true → w1 δ n' po) (h2 : φ false → w2 δ n' po) : wIfS wc w1 w2 δ n po := by
  unfold wIfS
  refine h _ fun b hb => ⟨fun e => ?_, fun e => ?_⟩
  · subst e; exact h1 hb
  · subst e; exact h2 hb
theorem wFor_m {wi : WI} {wg : WG} {wb : WS} {δ : List Sl} {n : Gh} {po : Po} (φ : Gh → List D → Prop) (hi : ∀ P' : Gh → List D → Prop, (∀ n1 ds, φ n1 ds → P' n1 ds) → wi δ n P' po.px)
    (g : ∀ n1 ds, φ n1 ds → ∃ I : Nat → List Sl → Gh → Prop, I 0 δ n1 ∧ (∀ i δ' m d, ds[i]? = some d → I i δ' m → wg d δ' fun δ2 => wb δ2 m { nx := I (i + 1), ct := I (i + 1), bk := po.nx, rt := po.rt, px := po.px }) ∧ (∀ δ' m, I ds.length δ' m → po.nx δ' m)) : wFor wi wg wb δ n po :=
  hi _ g
theorem wSet_m {i : Nat} {we : WD} {δ : List Sl} {n : Gh} {po : Po} (φ : Gh → D → Prop) (h : ∀ P : Gh → Rs → Prop, (∀ n' x, φ n' x → P n' (.d x)) → we δ n P po.px) (g : ∀ n' x, φ n' x → po.nx (δ.set i (.d x)) n') : wSet i we δ n po := h _ fun n' x hx => ⟨_, rfl, g n' x hx⟩
theorem sizeLine_big {k : Nat} (h : k ≤ 16777216) : k ≤ sizeLine := by rw [sizeLine_eq]; exact h
/-! ### names -/
def abc : List Nat := q "abcdefghijklmnopqrstuvwxyz"
theorem mem_abc {c : Nat} : c ∈ abc ↔ 97 ≤ c ∧ c ≤ 122 := by
  have e : abc = (List.range 26).map (· + 97) := by decide +kernel
  rw [e, List.mem_map]
  constructor
  · rintro ⟨i, hi, rfl⟩
    rw [List.mem_range] at hi
    omega
  · rintro ⟨h1, h2⟩
    exact ⟨c - 97, List.mem_range.mpr (by omega), by omega⟩
def isNm (x : List Nat) : Bool := decide (1 ≤ x.length ∧ x.length ≤ 8) && x.all fun c => decide (c ∈ abc)
theorem isNm_len {x : List Nat} (h : isNm x = true) : 1 ≤ x.length ∧ x.length ≤ 8 := by
  unfold isNm at h
  simp at h
  exact h.1
theorem isNm_abc {x : List Nat} (h : isNm x = true) : ∀ c ∈ x, 97 ≤ c ∧ c ≤ 122 := fun c hc => by
  unfold isNm at h
  rw [Bool.and_eq_true] at h
  have := List.all_eq_true.mp h.2 c hc
  exact mem_abc.mp (of_decide_eq_true this)
def isSg (x : List Nat) : Bool := isNm x || x == q "."
def WORDS : List (List Nat) := [q "stop", q "part", q "ahead", q "pick", q "offer", q "beside", q "hide", q "rename"]
def isPn (x : List Nat) : Bool := isNm x && !(WORDS.any fun z => z == x)
def F_is_name : FW := fun ds n R _ => ∃ x, ds = [.str x] ∧ x.length ≤ sizeLine ∧ R n (.d (.bl (isNm x)))
def F_is_sign : FW := fun ds n R _ => ∃ x, ds = [.str x] ∧ x.length ≤ sizeLine ∧ R n (.d (.bl (isSg x)))
def F_is_part_name : FW := fun ds n R _ => ∃ x, ds = [.str x] ∧ x.length ≤ sizeLine ∧ R n (.d (.bl (isPn x)))
theorem pu_is_name : ∀ ds n R PX, ds.length = 1 → F_is_name ds n R PX → w_is_name (startD 2 ds) n (poOf R PXF0) := by
  rintro ds n R PX - ⟨x, rfl, hl, hR⟩
  unfold w_is_name
  simp [wSeq, wIfS, wIfE, wOrT, wAndT, wNot, wTest, wCall, wCons, wNil, wVar, wC, wChain, wRet, wRetN, wEnd, wOp, wSet, wLst, wTup, wFn, wIt, wNotV, wAndV, wOrA, wSl, wPart, wPart0, wSrc, wSrcPut, wJoin, wSplit, wPartn, wAsg, wgTup, wgCons, wgNil, wgN, wApp, wExt, wDrop, wNever, wFz, wSSet, wLSet, wPwW, wPwP, wPwInc, wMakePW, wMeth, wSetPop, wAugI, wRng1, wRng2, wTrue, wipeD, startD, poOf, and_assoc, gIsi_e, tyS_non, tyS_bl, tyS_int, tyS_str, tyS_tup, tyS_lst, tyS_dct, kitB_1, kitB_2, kitB_3, kitB_4, kitB_5, kitB_6, kitB_7, kitB_8, kitB_9, kitB_10, kitB_11, kitB_12, kitB_13, kitB_14, kitB_15, kitB_16, kitB_17, kitB_18, kitB_19, kitB_20, kitB_21, kitB_22, vw_d, vw_n, vw_b, lst_l, val_d, val_l, arg_d, arg_n, arg_b, dat_d, dat_n, dat_b, out_d, out_n, out_b, vwA_d, vwA_b, vwAs_nil, vwAs_d, vwAs_b, ardat_nil, ardat_d, txts_l, txts_t, seq_l, seq_t, seq_f, seq_s, put_d, put_n, truth_str, truth_bl, truth_tup, truth_lst, sfit_str, sfit_bl, sfit_tup, sfit_lst, frzS, eqv_int, eqv_str, eqv_bl, plain_str, plain_int, plain_bl, plain_non, plain_tup, plain_lst, plains_nil, plains_cons, py_str, py_int, py_bl, py_non, py_tup, py_lst, pys_nil, pys_cons, dep_str, dep_int, dep_bl, dep_non, dep_tup, dep_lst, depA_nil, depA_cons, flat_str, flat_int, atI_0, atI_1, atI_2, strL_nil, strL_cons, cut_from1, cut_from2, gLen, gB, gI, gAdd, gMul, gEq, gNe, gIn, gIsN, D.isN, gAll, gAny, gInt, gList, gTuple, gMin, gMax, gIx, gSl]
  refine ⟨hl, ?_⟩
  by_cases h1 : 1 ≤ x.length
  · by_cases h2 : x.length ≤ 8
    · refine .inr ⟨by omega, .inr ⟨by omega, ?_⟩⟩
      refine wLc_map x (fun c => D.str [c]) (fun c => .bl (decide (c ∈ abc))) (fun P' h => by simp [wSeq, wIfS, wIfE, wOrT, wAndT, wNot, wTest, wCall, wCons, wNil, wVar, wC, wChain, wRet, wRetN, wEnd, wOp, wSet, wLst, wTup, wFn, wIt, wNotV, wAndV, wOrA, wSl, wPart, wPart0, wSrc, wSrcPut, wJoin, wSplit, wPartn, wAsg, wgTup, wgCons, wgNil, wgN, wApp, wExt, wDrop, wNever, wFz, wSSet, wLSet, wPwW, wPwP, wPwInc, wMakePW, wMeth, wSetPop, wAugI, wRng1, wRng2, wTrue, wipeD, startD, poOf, and_assoc, gIsi_e, tyS_non, tyS_bl, tyS_int, tyS_str, tyS_tup, tyS_lst, tyS_dct, kitB_1, kitB_2, kitB_3, kitB_4, kitB_5, kitB_6, kitB_7, kitB_8, kitB_9, kitB_10, kitB_11, kitB_12, kitB_13, kitB_14, kitB_15, kitB_16, kitB_17, kitB_18, kitB_19, kitB_20, kitB_21, kitB_22, vw_d, vw_n, vw_b, lst_l, val_d, val_l, arg_d, arg_n, arg_b, dat_d, dat_n, dat_b, out_d, out_n, out_b, vwA_d, vwA_b, vwAs_nil, vwAs_d, vwAs_b, ardat_nil, ardat_d, txts_l, txts_t, seq_l, seq_t, seq_f, seq_s, put_d, put_n, truth_str, truth_bl, truth_tup, truth_lst, sfit_str, sfit_bl, sfit_tup, sfit_lst, frzS, eqv_int, eqv_str, eqv_bl, plain_str, plain_int, plain_bl, plain_non, plain_tup, plain_lst, plains_nil, plains_cons, py_str, py_int, py_bl, py_non, py_tup, py_lst, pys_nil, pys_cons, dep_str, dep_int, dep_bl, dep_non, dep_tup, dep_lst, depA_nil, depA_cons, flat_str, flat_int, atI_0, atI_1, atI_2, strL_nil, strL_cons, cut_from1, cut_from2, gLen, gB, gI, gAdd, gMul, gEq, gNe, gIn, gIsN, D.isN, gAll, gAny, gInt, gList, gTuple, gMin, gMax, gIx, gSl]; exact h) hl (fun c hc K1 h K0 => ?_) ?_
      · simp [wSeq, wIfS, wIfE, wOrT, wAndT, wNot, wTest, wCall, wCons, wNil, wVar, wC, wChain, wRet, wRetN, wEnd, wOp, wSet, wLst, wTup, wFn, wIt, wNotV, wAndV, wOrA, wSl, wPart, wPart0, wSrc, wSrcPut, wJoin, wSplit, wPartn, wAsg, wgTup, wgCons, wgNil, wgN, wApp, wExt, wDrop, wNever, wFz, wSSet, wLSet, wPwW, wPwP, wPwInc, wMakePW, wMeth, wSetPop, wAugI, wRng1, wRng2, wTrue, wipeD, startD, poOf, and_assoc, gIsi_e, tyS_non, tyS_bl, tyS_int, tyS_str, tyS_tup, tyS_lst, tyS_dct, kitB_1, kitB_2, kitB_3, kitB_4, kitB_5, kitB_6, kitB_7, kitB_8, kitB_9, kitB_10, kitB_11, kitB_12, kitB_13, kitB_14, kitB_15, kitB_16, kitB_17, kitB_18, kitB_19, kitB_20, kitB_21, kitB_22, vw_d, vw_n, vw_b, lst_l, val_d, val_l, arg_d, arg_n, arg_b, dat_d, dat_n, dat_b, out_d, out_n, out_b, vwA_d, vwA_b, vwAs_nil, vwAs_d, vwAs_b, ardat_nil, ardat_d, txts_l, txts_t, seq_l, seq_t, seq_f, seq_s, put_d, put_n, truth_str, truth_bl, truth_tup, truth_lst, sfit_str, sfit_bl, sfit_tup, sfit_lst, frzS, eqv_int, eqv_str, eqv_bl, plain_str, plain_int, plain_bl, plain_non, plain_tup, plain_lst, plains_nil, plains_cons, py_str, py_int, py_bl, py_non, py_tup, py_lst, pys_nil, pys_cons, dep_str, dep_int, dep_bl, dep_non, dep_tup, dep_lst, depA_nil, depA_cons, flat_str, flat_int, atI_0, atI_1, atI_2, strL_nil, strL_cons, cut_from1, cut_from2, gLen, gB, gI, gAdd, gMul, gEq, gNe, gIn, gIsN, D.isN, gAll, gAny, gInt, gList, gTuple, gMin, gMax, gIx, gSl]
        exact h
      · have e : isNm x = x.all fun c => decide (c ∈ abc) := by
          unfold isNm
          simp [h1, h2]
        rw [e] at hR
        simp [vwAs_d, vwAs_nil, arg_n, List.all_map, D.isB]
        have ee : (D.tru ∘ fun c : Nat => D.bl (decide (c ∈ abc))) = fun c => decide (c ∈ abc) := rfl
        rw [ee]
        exact hR
    · have e : isNm x = false := by
        unfold isNm
        simp [h2]
      rw [e] at hR
      exact .inr ⟨by omega, .inl ⟨by omega, hR⟩⟩
  · have e : isNm x = false := by
      unfold isNm
      simp [h1]
    rw [e] at hR
    exact .inl ⟨by omega, hR⟩
theorem pu_is_sign : ∀ ds n R PX, ds.length = 1 → F_is_sign ds n R PX → w_is_sign F_is_name (startD 1 ds) n (poOf R PXF0) := by
  rintro ds n R PX - ⟨x, rfl, hl, hR⟩
  unfold w_is_sign F_is_name
  simp [wSeq, wIfS, wIfE, wOrT, wAndT, wNot, wTest, wCall, wCons, wNil, wVar, wC, wChain, wRet, wRetN, wEnd, wOp, wSet, wLst, wTup, wFn, wIt, wNotV, wAndV, wOrA, wSl, wPart, wPart0, wSrc, wSrcPut, wJoin, wSplit, wPartn, wAsg, wgTup, wgCons, wgNil, wgN, wApp, wExt, wDrop, wNever, wFz, wSSet, wLSet, wPwW, wPwP, wPwInc, wMakePW, wMeth, wSetPop, wAugI, wRng1, wRng2, wTrue, wipeD, startD, poOf, and_assoc, gIsi_e, tyS_non, tyS_bl, tyS_int, tyS_str, tyS_tup, tyS_lst, tyS_dct, kitB_1, kitB_2, kitB_3, kitB_4, kitB_5, kitB_6, kitB_7, kitB_8, kitB_9, kitB_10, kitB_11, kitB_12, kitB_13, kitB_14, kitB_15, kitB_16, kitB_17, kitB_18, kitB_19, kitB_20, kitB_21, kitB_22, vw_d, vw_n, vw_b, lst_l, val_d, val_l, arg_d, arg_n, arg_b, dat_d, dat_n, dat_b, out_d, out_n, out_b, vwA_d, vwA_b, vwAs_nil, vwAs_d, vwAs_b, ardat_nil, ardat_d, txts_l, txts_t, seq_l, seq_t, seq_f, seq_s, put_d, put_n, truth_str, truth_bl, truth_tup, truth_lst, sfit_str, sfit_bl, sfit_tup, sfit_lst, frzS, eqv_int, eqv_str, eqv_bl, plain_str, plain_int, plain_bl, plain_non, plain_tup, plain_lst, plains_nil, plains_cons, py_str, py_int, py_bl, py_non, py_tup, py_lst, pys_nil, pys_cons, dep_str, dep_int, dep_bl, dep_non, dep_tup, dep_lst, depA_nil, depA_cons, flat_str, flat_int, atI_0, atI_1, atI_2, strL_nil, strL_cons, cut_from1, cut_from2, gLen, gB, gI, gAdd, gMul, gEq, gNe, gIn, gIsN, D.isN, gAll, gAny, gInt, gList, gTuple, gMin, gMax, gIx, gSl]
  refine ⟨hl, ?_⟩
  unfold isSg at hR
  cases h : isNm x <;> rw [h] at hR <;> simpa using hR
theorem pu_is_part_name : ∀ ds n R PX, ds.length = 1 → F_is_part_name ds n R PX → w_is_part_name F_is_name (startD 1 ds) n (poOf R PXF0) := by
  rintro ds n R PX - ⟨x, rfl, hl, hR⟩
  unfold w_is_part_name F_is_name
  simp [wSeq, wIfS, wIfE, wOrT, wAndT, wNot, wTest, wCall, wCons, wNil, wVar, wC, wChain, wRet, wRetN, wEnd, wOp, wSet, wLst, wTup, wFn, wIt, wNotV, wAndV, wOrA, wSl, wPart, wPart0, wSrc, wSrcPut, wJoin, wSplit, wPartn, wAsg, wgTup, wgCons, wgNil, wgN, wApp, wExt, wDrop, wNever, wFz, wSSet, wLSet, wPwW, wPwP, wPwInc, wMakePW, wMeth, wSetPop, wAugI, wRng1, wRng2, wTrue, wipeD, startD, poOf, and_assoc, gIsi_e, tyS_non, tyS_bl, tyS_int, tyS_str, tyS_tup, tyS_lst, tyS_dct, kitB_1, kitB_2, kitB_3, kitB_4, kitB_5, kitB_6, kitB_7, kitB_8, kitB_9, kitB_10, kitB_11, kitB_12, kitB_13, kitB_14, kitB_15, kitB_16, kitB_17, kitB_18, kitB_19, kitB_20, kitB_21, kitB_22, vw_d, vw_n, vw_b, lst_l, val_d, val_l, arg_d, arg_n, arg_b, dat_d, dat_n, dat_b, out_d, out_n, out_b, vwA_d, vwA_b, vwAs_nil, vwAs_d, vwAs_b, ardat_nil, ardat_d, txts_l, txts_t, seq_l, seq_t, seq_f, seq_s, put_d, put_n, truth_str, truth_bl, truth_tup, truth_lst, sfit_str, sfit_bl, sfit_tup, sfit_lst, frzS, eqv_int, eqv_str, eqv_bl, plain_str, plain_int, plain_bl, plain_non, plain_tup, plain_lst, plains_nil, plains_cons, py_str, py_int, py_bl, py_non, py_tup, py_lst, pys_nil, pys_cons, dep_str, dep_int, dep_bl, dep_non, dep_tup, dep_lst, depA_nil, depA_cons, flat_str, flat_int, atI_0, atI_1, atI_2, strL_nil, strL_cons, cut_from1, cut_from2, gLen, gB, gI, gAdd, gMul, gEq, gNe, gIn, gIsN, D.isN, gAll, gAny, gInt, gList, gTuple, gMin, gMax, gIx, gSl]
  refine ⟨hl, fun h => ?_, fun h => ?_⟩
  · simpa [isPn, h, WORDS] using hR
  · simpa [isPn, h] using hR

/-! ### plans -/
inductive Pl where
  | stop | part (x : List Nat) | ahead (s : List Nat) (p : Pl) | two (b : Bool) (p r : Pl) | beside (ys : List (List Nat)) (p r : Pl) | hide (ys : List (List Nat)) (p : Pl) | ren (ps : List (List Nat × List Nat)) (p : Pl)
def namesD (ys : List (List Nat)) : D := .tup (ys.map .str)
def pairD (p : List Nat × List Nat) : D := .tup [.str p.1, .str p.2]
def pairsD (ps : List (List Nat × List Nat)) : D := .tup (ps.map pairD)
def Pl.d : Pl → D
  | .stop => .tup [.str (q "stop")]
  | .part x => .tup [.str (q "part"), .str x]
  | .ahead s p => .tup [.str (q "ahead"), .str s, p.d]
  | .two b p r => .tup [.str (if b then q "offer" else q "pick"), p.d, r.d]
  | .beside ys p r => .tup [.str (q "beside"), namesD ys, p.d, r.d]
  | .hide ys p => .tup [.str (q "hide"), namesD ys, p.d]
  | .ren ps p => .tup [.str (q "rename"), pairsD ps, p.d]
def namesT (ys : List (List Nat)) : List Nat := if ys.isEmpty then q "-" else joinS (q ",") ys
def pairT (p : List Nat × List Nat) : List Nat := p.1 ++ q ">" ++ p.2
def Pl.subs : Pl → List Pl
  | .stop => []
  | .part _ => []
  | .ahead _ p => [p]
  | .two _ p r => [p, r]
  | .beside _ p r => [p, r]
  | .hide _ p => [p]
  | .ren _ p => [p]
def Pl.spell : Pl → List (List Nat)
  | .stop => [q "stop"]
  | .part x => [x]
  | .ahead s p => q "ahead" :: s :: p.spell
  | .two b p r => (if b then q "offer" else q "pick") :: (p.spell ++ r.spell)
  | .beside ys p r => q "beside" :: namesT ys :: (p.spell ++ r.spell)
  | .hide ys p => q "hide" :: namesT ys :: p.spell
  | .ren ps p => q "rename" :: namesT (ps.map pairT) :: p.spell
def Pl.leaves : Pl → List (List Nat)
  | .stop => []
  | .part x => [x]
  | .ahead _ p => p.leaves
  | .two _ p r => p.leaves ++ r.leaves
  | .beside _ p r => p.leaves ++ r.leaves
  | .hide _ p => p.leaves
  | .ren _ p => p.leaves
def okN (ys : List (List Nat)) : Prop := (∀ y ∈ ys, isNm y = true) ∧ ys.Nodup ∧ ys.length ≤ 10
def okP (ps : List (List Nat × List Nat)) : Prop := (∀ p ∈ ps, isNm p.1 = true ∧ isNm p.2 = true) ∧ (ps.map (·.1)).Nodup ∧ ps.length ≤ 10
def Pl.ok : Pl → Prop
  | .stop => True
  | .part x => isPn x = true
  | .ahead s p => isSg s = true ∧ p.ok
  | .two _ p r => p.ok ∧ r.ok
  | .beside ys p r => okN ys ∧ p.ok ∧ r.ok
  | .hide ys p => okN ys ∧ p.ok
  | .ren ps p => okP ps ∧ p.ok
/-- how deep it calls itself -/
def Pl.deep : Pl → Nat
  | .stop => 1
  | .part _ => 1
  | .ahead _ p => p.deep + 1
  | .two _ p r => max p.deep r.deep + 1
  | .beside _ p r => max p.deep r.deep + 1
  | .hide _ p => p.deep + 1
  | .ren _ p => p.deep + 1
theorem q_stop : q "stop" = [115, 116, 111, 112] := by decide +kernel
theorem q_part : q "part" = [112, 97, 114, 116] := by decide +kernel
theorem q_ahead : q "ahead" = [97, 104, 101, 97, 100] := by decide +kernel
theorem q_pick : q "pick" = [112, 105, 99, 107] := by decide +kernel
theorem q_offer : q "offer" = [111, 102, 102, 101, 114] := by decide +kernel
theorem q_beside : q "beside" = [98, 101, 115, 105, 100, 101] := by decide +kernel
theorem q_hide : q "hide" = [104, 105, 100, 101] := by decide +kernel
theorem q_rename : q "rename" = [114, 101, 110, 97, 109, 101] := by decide +kernel
theorem q_dash : q "-" = [45] := by decide +kernel
theorem q_comma : q "," = [44] := by decide +kernel
theorem q_gt : q ">" = [62] := by decide +kernel
theorem q_dot : q "." = [46] := by decide +kernel
theorem q_blank : q " " = [32] := by decide +kernel
theorem joinS_len (sep : List Nat) : ∀ ys : List (List Nat), (joinS sep ys).length ≤ (ys.map (·.length)).sum + ys.length * sep.length
  | [] => by simp [joinS]
  | [x] => by simp [joinS]
  | x :: y :: r => by
    have ih := joinS_len sep (y :: r)
    rw [joinS]
    simp only [List.length_append, List.map_cons, List.sum_cons, List.length_cons] at *
    have : (r.length + 1 + 1) * sep.length = (r.length + 1) * sep.length + sep.length := by rw [Nat.succ_mul]
    omega
def F_plans_in : FW := fun ds n R _ => ∃ p : Pl, ds = [p.d] ∧ R n (.n (p.subs.map Pl.d))
theorem pu_plans_in : ∀ ds n R PX, ds.length = 1 → F_plans_in ds n R PX → w_plans_in (startD 1 ds) n (poOf R PXF0) := by
  rintro ds n R PX - ⟨p, rfl, hR⟩
  unfold w_plans_in
  cases p with
  | two b p r =>
    cases b <;> (simp only [Pl.d, Pl.subs] at *; simp [wSeq, wIfS, wIfE, wOrT, wAndT, wNot, wTest, wCall, wCons, wNil, wVar, wC, wChain, wRet, wRetN, wEnd, wOp, wSet, wLst, wTup, wFn, wIt, wNotV, wAndV, wOrA, wSl, wPart, wPart0, wSrc, wSrcPut, wJoin, wSplit, wPartn, wAsg, wgTup, wgCons, wgNil, wgN, wApp, wExt, wDrop, wNever, wFz, wSSet, wLSet, wPwW, wPwP, wPwInc, wMakePW, wMeth, wSetPop, wAugI, wRng1, wRng2, wTrue, wipeD, startD, poOf, and_assoc, gIsi_e, tyS_non, tyS_bl, tyS_int, tyS_str, tyS_tup, tyS_lst, tyS_dct, kitB_1, kitB_2, kitB_3, kitB_4, kitB_5, kitB_6, kitB_7, kitB_8, kitB_9, kitB_10, kitB_11, kitB_12, kitB_13, kitB_14, kitB_15, kitB_16, kitB_17, kitB_18, kitB_19, kitB_20, kitB_21, kitB_22, vw_d, vw_n, vw_b, lst_l, val_d, val_l, arg_d, arg_n, arg_b, dat_d, dat_n, dat_b, out_d, out_n, out_b, vwA_d, vwA_b, vwAs_nil, vwAs_d, vwAs_b, ardat_nil, ardat_d, txts_l, txts_t, seq_l, seq_t, seq_f, seq_s, put_d, put_n, truth_str, truth_bl, truth_tup, truth_lst, sfit_str, sfit_bl, sfit_tup, sfit_lst, frzS, eqv_int, eqv_str, eqv_bl, plain_str, plain_int, plain_bl, plain_non, plain_tup, plain_lst, plains_nil, plains_cons, py_str, py_int, py_bl, py_non, py_tup, py_lst, pys_nil, pys_cons, dep_str, dep_int, dep_bl, dep_non, dep_tup, dep_lst, depA_nil, depA_cons, flat_str, flat_int, atI_0, atI_1, atI_2, strL_nil, strL_cons, cut_from1, cut_from2, gLen, gB, gI, gAdd, gMul, gEq, gNe, gIn, gIsN, D.isN, gAll, gAny, gInt, gList, gTuple, gMin, gMax, gIx, gSl]; simp [q_stop, q_part, q_ahead, q_pick, q_offer, q_beside, q_hide, q_rename]; simpa using hR)
  | _ => simp only [Pl.d, Pl.subs, namesD, pairsD] at *; simp [wSeq, wIfS, wIfE, wOrT, wAndT, wNot, wTest, wCall, wCons, wNil, wVar, wC, wChain, wRet, wRetN, wEnd, wOp, wSet, wLst, wTup, wFn, wIt, wNotV, wAndV, wOrA, wSl, wPart, wPart0, wSrc, wSrcPut, wJoin, wSplit, wPartn, wAsg, wgTup, wgCons, wgNil, wgN, wApp, wExt, wDrop, wNever, wFz, wSSet, wLSet, wPwW, wPwP, wPwInc, wMakePW, wMeth, wSetPop, wAugI, wRng1, wRng2, wTrue, wipeD, startD, poOf, and_assoc, gIsi_e, tyS_non, tyS_bl, tyS_int, tyS_str, tyS_tup, tyS_lst, tyS_dct, kitB_1, kitB_2, kitB_3, kitB_4, kitB_5, kitB_6, kitB_7, kitB_8, kitB_9, kitB_10, kitB_11, kitB_12, kitB_13, kitB_14, kitB_15, kitB_16, kitB_17, kitB_18, kitB_19, kitB_20, kitB_21, kitB_22, vw_d, vw_n, vw_b, lst_l, val_d, val_l, arg_d, arg_n, arg_b, dat_d, dat_n, dat_b, out_d, out_n, out_b, vwA_d, vwA_b, vwAs_nil, vwAs_d, vwAs_b, ardat_nil, ardat_d, txts_l, txts_t, seq_l, seq_t, seq_f, seq_s, put_d, put_n, truth_str, truth_bl, truth_tup, truth_lst, sfit_str, sfit_bl, sfit_tup, sfit_lst, frzS, eqv_int, eqv_str, eqv_bl, plain_str, plain_int, plain_bl, plain_non, plain_tup, plain_lst, plains_nil, plains_cons, py_str, py_int, py_bl, py_non, py_tup, py_lst, pys_nil, pys_cons, dep_str, dep_int, dep_bl, dep_non, dep_tup, dep_lst, depA_nil, depA_cons, flat_str, flat_int, atI_0, atI_1, atI_2, strL_nil, strL_cons, cut_from1, cut_from2, gLen, gB, gI, gAdd, gMul, gEq, gNe, gIn, gIsN, D.isN, gAll, gAny, gInt, gList, gTuple, gMin, gMax, gIx, gSl]; simp [q_stop, q_part, q_ahead, q_pick, q_offer, q_beside, q_hide, q_rename]; simpa using hR
/-- lists of texts whose lengths are small -/
def small (ys : List (List Nat)) : Prop := (ys.map (·.length)).sum + ys.length ≤ 16777216
def F_names_text : FW := fun ds n R _ => ∃ ys, (ds = [.tup (ys.map .str)] ∨ ds = [.lst (ys.map .str)]) ∧ small ys ∧ R n (.d (.str (namesT ys)))
theorem pu_names_text : ∀ ds n R PX, ds.length = 1 → F_names_text ds n R PX → w_names_text (startD 1 ds) n (poOf R PXF0) := by
  rintro ds n R PX - ⟨ys, h | h, hs, hR⟩ <;> subst h <;> unfold w_names_text <;> simp [wSeq, wIfS, wIfE, wOrT, wAndT, wNot, wTest, wCall, wCons, wNil, wVar, wC, wChain, wRet, wRetN, wEnd, wOp, wSet, wLst, wTup, wFn, wIt, wNotV, wAndV, wOrA, wSl, wPart, wPart0, wSrc, wSrcPut, wJoin, wSplit, wPartn, wAsg, wgTup, wgCons, wgNil, wgN, wApp, wExt, wDrop, wNever, wFz, wSSet, wLSet, wPwW, wPwP, wPwInc, wMakePW, wMeth, wSetPop, wAugI, wRng1, wRng2, wTrue, wipeD, startD, poOf, and_assoc, gIsi_e, tyS_non, tyS_bl, tyS_int, tyS_str, tyS_tup, tyS_lst, tyS_dct, kitB_1, kitB_2, kitB_3, kitB_4, kitB_5, kitB_6, kitB_7, kitB_8, kitB_9, kitB_10, kitB_11, kitB_12, kitB_13, kitB_14, kitB_15, kitB_16, kitB_17, kitB_18, kitB_19, kitB_20, kitB_21, kitB_22, vw_d, vw_n, vw_b, lst_l, val_d, val_l, arg_d, arg_n, arg_b, dat_d, dat_n, dat_b, out_d, out_n, out_b, vwA_d, vwA_b, vwAs_nil, vwAs_d, vwAs_b, ardat_nil, ardat_d, txts_l, txts_t, seq_l, seq_t, seq_f, seq_s, put_d, put_n, truth_str, truth_bl, truth_tup, truth_lst, sfit_str, sfit_bl, sfit_tup, sfit_lst, frzS, eqv_int, eqv_str, eqv_bl, plain_str, plain_int, plain_bl, plain_non, plain_tup, plain_lst, plains_nil, plains_cons, py_str, py_int, py_bl, py_non, py_tup, py_lst, pys_nil, pys_cons, dep_str, dep_int, dep_bl, dep_non, dep_tup, dep_lst, depA_nil, depA_cons, flat_str, flat_int, atI_0, atI_1, atI_2, strL_nil, strL_cons, cut_from1, cut_from2, gLen, gB, gI, gAdd, gMul, gEq, gNe, gIn, gIsN, D.isN, gAll, gAny, gInt, gList, gTuple, gMin, gMax, gIx, gSl] <;> (
    cases ys with
    | nil => exact .inl ⟨rfl, hR⟩
    | cons y r => exact .inr ⟨by simp, _, D.strL_map _, by rw [q_comma]; simpa [small] using hs, by simpa [namesT] using hR⟩)
/-! ### words_of -/
theorem ok_small {ys : List (List Nat)} {k m : Nat} (h : ∀ y ∈ ys, y.length ≤ k) (hm : ys.length ≤ m) (hk : m * (k + 1) ≤ 16777216) : small ys := by
  unfold small
  have : (ys.map (·.length)).sum ≤ ys.length * k := by
    clear hm hk
    induction ys with
    | nil => simp
    | cons y r ih =>
      have h1 := h y List.mem_cons_self
      have h2 := ih fun z hz => h z (List.mem_cons_of_mem _ hz)
      simp only [List.map_cons, List.sum_cons, List.length_cons]
      rw [Nat.succ_mul]
      omega
  have h3 : ys.length * (k + 1) ≤ m * (k + 1) := Nat.mul_le_mul_right _ hm
  have h4 : ys.length * (k + 1) = ys.length * k + ys.length := by rw [Nat.mul_succ]
  omega
theorem okN_small {ys : List (List Nat)} (h : okN ys) : small ys := ok_small (k := 8) (m := 10) (fun y hy => (isNm_len (h.1 y hy)).2) h.2.2 (by decide)
theorem okP_small {ps : List (List Nat × List Nat)} (h : okP ps) : small (ps.map pairT) := ok_small (k := 17) (m := 10) (fun y hy => by
  obtain ⟨p, hp, rfl⟩ := List.mem_map.mp hy
  obtain ⟨h1, h2⟩ := h.1 p hp
  have := (isNm_len h1).2
  have := (isNm_len h2).2
  unfold pairT
  rw [q_gt]
  simp
  omega) (by rw [List.length_map]; exact h.2.2) (by decide)
theorem subs_ok {p r : Pl} (h : p.ok) (hr : r ∈ p.subs) : r.ok ∧ r.deep + 1 ≤ p.deep := by
  cases p <;> simp only [Pl.subs, Pl.ok, Pl.deep, List.mem_cons, List.not_mem_nil, or_false] at * <;> first
    | exact hr.elim
    | (subst hr; exact ⟨by first | exact h.2 | exact h, by omega⟩)
    | (rcases hr with rfl | rfl
       · exact ⟨by first | exact h.1 | exact h.2.1, by omega⟩
       · exact ⟨by first | exact h.2 | exact h.2.2, by omega⟩)
def Pl.head : Pl → List (List Nat)
  | .stop => [q "stop"]
  | .part x => [x]
  | .ahead s p => [q "ahead", s]
  | .two b p r => [if b then q "offer" else q "pick"]
  | .beside ys p r => [q "beside", namesT ys]
  | .hide ys p => [q "hide", namesT ys]
  | .ren ps p => [q "rename", namesT (ps.map pairT)]
theorem spell_eq (p : Pl) : p.spell = p.head ++ p.subs.flatMap Pl.spell := by cases p <;> simp [Pl.spell, Pl.head, Pl.subs]
def F_words_of (k : Nat) : FW := fun ds n R _ => ∃ p : Pl, ds = [p.d] ∧ p.ok ∧ p.deep ≤ k ∧ p.spell.length ≤ 16000000 ∧ R n (.n (p.spell.map .str))
theorem flat_take {α β : Type} (f : α → List β) {xs : List α} {i : Nat} {x : α} (h : xs[i]? = some x) : (xs.take (i + 1)).flatMap f = (xs.take i).flatMap f ++ f x := by
  rw [List.take_add_one, h]
  simp
theorem flat_len_le {α β : Type} (f : α → List β) (xs : List α) (i : Nat) : ((xs.take i).flatMap f).length ≤ (xs.flatMap f).length := by
  conv => rhs; rw [← List.take_append_drop i xs, List.flatMap_append, List.length_append]
  omega
/-- the loop over the plans within -/
theorem words_loop {k : Nat} {p : Pl} (hp : p.ok) (hd : p.deep ≤ k + 1) (hl : p.spell.length ≤ 16000000) {n : Gh} {w e : D} {R : Gh → Rs → Prop} {PX : PX0} {s4 s5 : Sl} {found : List D} (hf : found = p.head.map .str) (hR : R n (.n (p.spell.map .str))) :
    wSeq (wFor (wIt (wFn F_plans_in 1 (wCons (wVar 0) wNil))) (wgN 3) (wExt 2 (wFn (F_words_of k) 1 (wCons (wVar 3) wNil)))) (wRet (wVar 2)) [.d p.d, .d w, .l found, .u, s4, s5] n (poOf R PXF0) := by
  subst hf
  unfold F_plans_in
  simp only [wSeq, wFor]
  simp [wSeq, wIfS, wIfE, wOrT, wAndT, wNot, wTest, wCall, wCons, wNil, wVar, wC, wChain, wRet, wRetN, wEnd, wOp, wSet, wLst, wTup, wFn, wIt, wNotV, wAndV, wOrA, wSl, wPart, wPart0, wSrc, wSrcPut, wJoin, wSplit, wPartn, wAsg, wgTup, wgCons, wgNil, wgN, wApp, wExt, wDrop, wNever, wFz, wSSet, wLSet, wPwW, wPwP, wPwInc, wMakePW, wMeth, wSetPop, wAugI, wRng1, wRng2, wTrue, wipeD, startD, poOf, and_assoc, gIsi_e, tyS_non, tyS_bl, tyS_int, tyS_str, tyS_tup, tyS_lst, tyS_dct, kitB_1, kitB_2, kitB_3, kitB_4, kitB_5, kitB_6, kitB_7, kitB_8, kitB_9, kitB_10, kitB_11, kitB_12, kitB_13, kitB_14, kitB_15, kitB_16, kitB_17, kitB_18, kitB_19, kitB_20, kitB_21, kitB_22, vw_d, vw_n, vw_b, lst_l, val_d, val_l, arg_d, arg_n, arg_b, dat_d, dat_n, dat_b, out_d, out_n, out_b, vwA_d, vwA_b, vwAs_nil, vwAs_d, vwAs_b, ardat_nil, ardat_d, txts_l, txts_t, seq_l, seq_t, seq_f, seq_s, put_d, put_n, truth_str, truth_bl, truth_tup, truth_lst, sfit_str, sfit_bl, sfit_tup, sfit_lst, frzS, eqv_int, eqv_str, eqv_bl, plain_str, plain_int, plain_bl, plain_non, plain_tup, plain_lst, plains_nil, plains_cons, py_str, py_int, py_bl, py_non, py_tup, py_lst, pys_nil, pys_cons, dep_str, dep_int, dep_bl, dep_non, dep_tup, dep_lst, depA_nil, depA_cons, flat_str, flat_int, atI_0, atI_1, atI_2, strL_nil, strL_cons, cut_from1, cut_from2, gLen, gB, gI, gAdd, gMul, gEq, gNe, gIn, gIsN, D.isN, gAll, gAny, gInt, gList, gTuple, gMin, gMax, gIx, gSl]
  refine ⟨p, rfl, fun i δ m => m = n ∧ ∃ s3, δ = [.d p.d, .d w, .l ((p.head ++ (p.subs.take i).flatMap Pl.spell).map .str), s3, s4, s5], ⟨rfl, .u, by simp⟩, ?_, ?_⟩
  · rintro i δ m x hx ⟨rfl, s3, rfl⟩
    obtain ⟨h1, h2⟩ := subs_ok hp (List.mem_of_getElem? hx)
    unfold F_words_of
    simp [wSeq, wIfS, wIfE, wOrT, wAndT, wNot, wTest, wCall, wCons, wNil, wVar, wC, wChain, wRet, wRetN, wEnd, wOp, wSet, wLst, wTup, wFn, wIt, wNotV, wAndV, wOrA, wSl, wPart, wPart0, wSrc, wSrcPut, wJoin, wSplit, wPartn, wAsg, wgTup, wgCons, wgNil, wgN, wApp, wExt, wDrop, wNever, wFz, wSSet, wLSet, wPwW, wPwP, wPwInc, wMakePW, wMeth, wSetPop, wAugI, wRng1, wRng2, wTrue, wipeD, startD, poOf, and_assoc, gIsi_e, tyS_non, tyS_bl, tyS_int, tyS_str, tyS_tup, tyS_lst, tyS_dct, kitB_1, kitB_2, kitB_3, kitB_4, kitB_5, kitB_6, kitB_7, kitB_8, kitB_9, kitB_10, kitB_11, kitB_12, kitB_13, kitB_14, kitB_15, kitB_16, kitB_17, kitB_18, kitB_19, kitB_20, kitB_21, kitB_22, vw_d, vw_n, vw_b, lst_l, val_d, val_l, arg_d, arg_n, arg_b, dat_d, dat_n, dat_b, out_d, out_n, out_b, vwA_d, vwA_b, vwAs_nil, vwAs_d, vwAs_b, ardat_nil, ardat_d, txts_l, txts_t, seq_l, seq_t, seq_f, seq_s, put_d, put_n, truth_str, truth_bl, truth_tup, truth_lst, sfit_str, sfit_bl, sfit_tup, sfit_lst, frzS, eqv_int, eqv_str, eqv_bl, plain_str, plain_int, plain_bl, plain_non, plain_tup, plain_lst, plains_nil, plains_cons, py_str, py_int, py_bl, py_non, py_tup, py_lst, pys_nil, pys_cons, dep_str, dep_int, dep_bl, dep_non, dep_tup, dep_lst, depA_nil, depA_cons, flat_str, flat_int, atI_0, atI_1, atI_2, strL_nil, strL_cons, cut_from1, cut_from2, gLen, gB, gI, gAdd, gMul, gEq, gNe, gIn, gIsN, D.isN, gAll, gAny, gInt, gList, gTuple, gMin, gMax, gIx, gSl]
    have e := spell_eq p
    have ef := flat_take Pl.spell hx
    have le := flat_len_le Pl.spell p.subs (i + 1)
    have l1 : (p.head ++ (p.subs.take (i + 1)).flatMap Pl.spell).length ≤ p.spell.length := by
      rw [e, List.length_append, List.length_append]
      omega
    rw [ef] at l1
    simp only [List.length_append] at l1
    refine ⟨x, rfl, h1, by omega, by omega, ?_⟩
    refine ⟨by rw [sizeLine_eq]; simp only [List.length_append, List.length_map, List.length_flatMap, List.map_take] at *; omega, ?_⟩
    rw [ef]
    simp
  · rintro δ m ⟨rfl, s3, rfl⟩
    simp [wSeq, wIfS, wIfE, wOrT, wAndT, wNot, wTest, wCall, wCons, wNil, wVar, wC, wChain, wRet, wRetN, wEnd, wOp, wSet, wLst, wTup, wFn, wIt, wNotV, wAndV, wOrA, wSl, wPart, wPart0, wSrc, wSrcPut, wJoin, wSplit, wPartn, wAsg, wgTup, wgCons, wgNil, wgN, wApp, wExt, wDrop, wNever, wFz, wSSet, wLSet, wPwW, wPwP, wPwInc, wMakePW, wMeth, wSetPop, wAugI, wRng1, wRng2, wTrue, wipeD, startD, poOf, and_assoc, gIsi_e, tyS_non, tyS_bl, tyS_int, tyS_str, tyS_tup, tyS_lst, tyS_dct, kitB_1, kitB_2, kitB_3, kitB_4, kitB_5, kitB_6, kitB_7, kitB_8, kitB_9, kitB_10, kitB_11, kitB_12, kitB_13, kitB_14, kitB_15, kitB_16, kitB_17, kitB_18, kitB_19, kitB_20, kitB_21, kitB_22, vw_d, vw_n, vw_b, lst_l, val_d, val_l, arg_d, arg_n, arg_b, dat_d, dat_n, dat_b, out_d, out_n, out_b, vwA_d, vwA_b, vwAs_nil, vwAs_d, vwAs_b, ardat_nil, ardat_d, txts_l, txts_t, seq_l, seq_t, seq_f, seq_s, put_d, put_n, truth_str, truth_bl, truth_tup, truth_lst, sfit_str, sfit_bl, sfit_tup, sfit_lst, frzS, eqv_int, eqv_str, eqv_bl, plain_str, plain_int, plain_bl, plain_non, plain_tup, plain_lst, plains_nil, plains_cons, py_str, py_int, py_bl, py_non, py_tup, py_lst, pys_nil, pys_cons, dep_str, dep_int, dep_bl, dep_non, dep_tup, dep_lst, depA_nil, depA_cons, flat_str, flat_int, atI_0, atI_1, atI_2, strL_nil, strL_cons, cut_from1, cut_from2, gLen, gB, gI, gAdd, gMul, gEq, gNe, gIn, gIsN, D.isN, gAll, gAny, gInt, gList, gTuple, gMin, gMax, gIx, gSl]
    have e := spell_eq p
    have := hR
    rw [e] at this
    simpa using this
theorem isPn_ne {x : List Nat} (h : isPn x = true) : isNm x = true ∧ ∀ y ∈ WORDS, y ≠ x := by
  unfold isPn at h
  rw [Bool.and_eq_true] at h
  refine ⟨h.1, fun y hy e => ?_⟩
  have h2 := h.2
  simp only [Bool.not_eq_true', List.any_eq_false] at h2
  exact h2 y hy (by rw [e]; exact beq_self_eq_true x)
theorem pu_words_of (k : Nat) : ∀ ds n R PX, ds.length = 1 → F_words_of (k + 1) ds n R PX → w_words_of F_names_text F_plans_in (F_words_of k) (startD 6 ds) n (poOf R PXF0) := by
  rintro ds n R PX - ⟨p, rfl, hp, hd, hl, hR⟩
  have loop := fun (w : D) (found : List D) (s4 s5 : Sl) hf => words_loop (w := w) (e := .non) (s4 := s4) (s5 := s5) (PX := PXF0) (found := found) hp hd hl hf hR
  unfold w_words_of
  generalize hL : wSeq (wFor (wIt (wFn F_plans_in 1 (wCons (wVar 0) wNil))) (wgN 3) (wExt 2 (wFn (F_words_of k) 1 (wCons (wVar 3) wNil)))) (wRet (wVar 2)) = L at loop ⊢
  cases p with
  | stop =>
    have loop := loop (.str (q "stop")) _ .u .u rfl
    simp only [Pl.d, Pl.head] at loop ⊢
    simp [wSeq, wIfS_T, wIfS_F, wIfE_T, wIfE_F, wOrT, wAndT, wNot, wTest, wCall, wCons, wNil, wVar, wC, wChain, wRet, wRetN, wEnd, wOp, wSet, wLst, wTup, wFn, wIt, wNotV, wAndV, wOrA, wSl, wPart, wPart0, wSrc, wSrcPut, wJoin, wSplit, wPartn, wAsg, wgTup, wgCons, wgNil, wgN, wApp, wExt, wDrop, wNever, wFz, wSSet, wLSet, wPwW, wPwP, wPwInc, wMakePW, wMeth, wSetPop, wAugI, wRng1, wRng2, wTrue, wipeD, startD, poOf, and_assoc, gIsi_e, tyS_non, tyS_bl, tyS_int, tyS_str, tyS_tup, tyS_lst, tyS_dct, kitB_1, kitB_2, kitB_3, kitB_4, kitB_5, kitB_6, kitB_7, kitB_8, kitB_9, kitB_10, kitB_11, kitB_12, kitB_13, kitB_14, kitB_15, kitB_16, kitB_17, kitB_18, kitB_19, kitB_20, kitB_21, kitB_22, vw_d, vw_n, vw_b, lst_l, val_d, val_l, arg_d, arg_n, arg_b, dat_d, dat_n, dat_b, out_d, out_n, out_b, vwA_d, vwA_b, vwAs_nil, vwAs_d, vwAs_b, ardat_nil, ardat_d, txts_l, txts_t, seq_l, seq_t, seq_f, seq_s, put_d, put_n, truth_str, truth_bl, truth_tup, truth_lst, sfit_str, sfit_bl, sfit_tup, sfit_lst, frzS, eqv_int, eqv_str, eqv_bl, plain_str, plain_int, plain_bl, plain_non, plain_tup, plain_lst, plains_nil, plains_cons, py_str, py_int, py_bl, py_non, py_tup, py_lst, pys_nil, pys_cons, dep_str, dep_int, dep_bl, dep_non, dep_tup, dep_lst, depA_nil, depA_cons, flat_str, flat_int, atI_0, atI_1, atI_2, strL_nil, strL_cons, cut_from1, cut_from2, gLen_s, gLen_l, gLen_t, gLen_f, gB_e, gI_e, gAdd_i, gAdd_s, gAdd_l, gAdd_t, gMul_i, gMul_l, gEq, gNe, gIn_s, gIn_l, gIn_t, gIsN_e, isN_non, isN_str, isN_tup, isN_int, isN_bl, isN_lst, gAll_e, gAny_e, gInt_i, gInt_b, gList_l, gList_t, gTuple_l, gTuple_t, gMin, gMax, gIx_l, gIx_t, gIx_f, gIx_s, gSl_l, gSl_f, gSl_t, gSl_s, sizeLine_eq, q_stop, q_part, q_ahead, q_pick, q_offer, q_beside, q_hide, q_rename]
    simpa [poOf, q_stop] using loop
  | part x =>
    simp only [Pl.d]
    simp [wSeq, wIfS_T, wIfS_F, wIfE_T, wIfE_F, wOrT, wAndT, wNot, wTest, wCall, wCons, wNil, wVar, wC, wChain, wRet, wRetN, wEnd, wOp, wSet, wLst, wTup, wFn, wIt, wNotV, wAndV, wOrA, wSl, wPart, wPart0, wSrc, wSrcPut, wJoin, wSplit, wPartn, wAsg, wgTup, wgCons, wgNil, wgN, wApp, wExt, wDrop, wNever, wFz, wSSet, wLSet, wPwW, wPwP, wPwInc, wMakePW, wMeth, wSetPop, wAugI, wRng1, wRng2, wTrue, wipeD, startD, poOf, and_assoc, gIsi_e, tyS_non, tyS_bl, tyS_int, tyS_str, tyS_tup, tyS_lst, tyS_dct, kitB_1, kitB_2, kitB_3, kitB_4, kitB_5, kitB_6, kitB_7, kitB_8, kitB_9, kitB_10, kitB_11, kitB_12, kitB_13, kitB_14, kitB_15, kitB_16, kitB_17, kitB_18, kitB_19, kitB_20, kitB_21, kitB_22, vw_d, vw_n, vw_b, lst_l, val_d, val_l, arg_d, arg_n, arg_b, dat_d, dat_n, dat_b, out_d, out_n, out_b, vwA_d, vwA_b, vwAs_nil, vwAs_d, vwAs_b, ardat_nil, ardat_d, txts_l, txts_t, seq_l, seq_t, seq_f, seq_s, put_d, put_n, truth_str, truth_bl, truth_tup, truth_lst, sfit_str, sfit_bl, sfit_tup, sfit_lst, frzS, eqv_int, eqv_str, eqv_bl, plain_str, plain_int, plain_bl, plain_non, plain_tup, plain_lst, plains_nil, plains_cons, py_str, py_int, py_bl, py_non, py_tup, py_lst, pys_nil, pys_cons, dep_str, dep_int, dep_bl, dep_non, dep_tup, dep_lst, depA_nil, depA_cons, flat_str, flat_int, atI_0, atI_1, atI_2, strL_nil, strL_cons, cut_from1, cut_from2, gLen_s, gLen_l, gLen_t, gLen_f, gB_e, gI_e, gAdd_i, gAdd_s, gAdd_l, gAdd_t, gMul_i, gMul_l, gEq, gNe, gIn_s, gIn_l, gIn_t, gIsN_e, isN_non, isN_str, isN_tup, isN_int, isN_bl, isN_lst, gAll_e, gAny_e, gInt_i, gInt_b, gList_l, gList_t, gTuple_l, gTuple_t, gMin, gMax, gIx_l, gIx_t, gIx_f, gIx_s, gSl_l, gSl_f, gSl_t, gSl_s, sizeLine_eq, q_stop, q_part, q_ahead, q_pick, q_offer, q_beside, q_hide, q_rename]
    simpa [Pl.spell] using hR
  | ahead s p =>
    have loop := loop (.str (q "ahead")) _ .u .u rfl
    simp only [Pl.d, Pl.head] at loop ⊢
    simp [wSeq, wIfS_T, wIfS_F, wIfE_T, wIfE_F, wOrT, wAndT, wNot, wTest, wCall, wCons, wNil, wVar, wC, wChain, wRet, wRetN, wEnd, wOp, wSet, wLst, wTup, wFn, wIt, wNotV, wAndV, wOrA, wSl, wPart, wPart0, wSrc, wSrcPut, wJoin, wSplit, wPartn, wAsg, wgTup, wgCons, wgNil, wgN, wApp, wExt, wDrop, wNever, wFz, wSSet, wLSet, wPwW, wPwP, wPwInc, wMakePW, wMeth, wSetPop, wAugI, wRng1, wRng2, wTrue, wipeD, startD, poOf, and_assoc, gIsi_e, tyS_non, tyS_bl, tyS_int, tyS_str, tyS_tup, tyS_lst, tyS_dct, kitB_1, kitB_2, kitB_3, kitB_4, kitB_5, kitB_6, kitB_7, kitB_8, kitB_9, kitB_10, kitB_11, kitB_12, kitB_13, kitB_14, kitB_15, kitB_16, kitB_17, kitB_18, kitB_19, kitB_20, kitB_21, kitB_22, vw_d, vw_n, vw_b, lst_l, val_d, val_l, arg_d, arg_n, arg_b, dat_d, dat_n, dat_b, out_d, out_n, out_b, vwA_d, vwA_b, vwAs_nil, vwAs_d, vwAs_b, ardat_nil, ardat_d, txts_l, txts_t, seq_l, seq_t, seq_f, seq_s, put_d, put_n, truth_str, truth_bl, truth_tup, truth_lst, sfit_str, sfit_bl, sfit_tup, sfit_lst, frzS, eqv_int, eqv_str, eqv_bl, plain_str, plain_int, plain_bl, plain_non, plain_tup, plain_lst, plains_nil, plains_cons, py_str, py_int, py_bl, py_non, py_tup, py_lst, pys_nil, pys_cons, dep_str, dep_int, dep_bl, dep_non, dep_tup, dep_lst, depA_nil, depA_cons, flat_str, flat_int, atI_0, atI_1, atI_2, strL_nil, strL_cons, cut_from1, cut_from2, gLen_s, gLen_l, gLen_t, gLen_f, gB_e, gI_e, gAdd_i, gAdd_s, gAdd_l, gAdd_t, gMul_i, gMul_l, gEq, gNe, gIn_s, gIn_l, gIn_t, gIsN_e, isN_non, isN_str, isN_tup, isN_int, isN_bl, isN_lst, gAll_e, gAny_e, gInt_i, gInt_b, gList_l, gList_t, gTuple_l, gTuple_t, gMin, gMax, gIx_l, gIx_t, gIx_f, gIx_s, gSl_l, gSl_f, gSl_t, gSl_s, sizeLine_eq, q_stop, q_part, q_ahead, q_pick, q_offer, q_beside, q_hide, q_rename]
    simpa [poOf, q_ahead] using loop
  | two b p r =>
    have loop := loop (.str (if b then q "offer" else q "pick")) _ .u .u rfl
    simp only [Pl.d, Pl.head] at loop ⊢
    cases b <;> (simp [wSeq, wIfS_T, wIfS_F, wIfE_T, wIfE_F, wOrT, wAndT, wNot, wTest, wCall, wCons, wNil, wVar, wC, wChain, wRet, wRetN, wEnd, wOp, wSet, wLst, wTup, wFn, wIt, wNotV, wAndV, wOrA, wSl, wPart, wPart0, wSrc, wSrcPut, wJoin, wSplit, wPartn, wAsg, wgTup, wgCons, wgNil, wgN, wApp, wExt, wDrop, wNever, wFz, wSSet, wLSet, wPwW, wPwP, wPwInc, wMakePW, wMeth, wSetPop, wAugI, wRng1, wRng2, wTrue, wipeD, startD, poOf, and_assoc, gIsi_e, tyS_non, tyS_bl, tyS_int, tyS_str, tyS_tup, tyS_lst, tyS_dct, kitB_1, kitB_2, kitB_3, kitB_4, kitB_5, kitB_6, kitB_7, kitB_8, kitB_9, kitB_10, kitB_11, kitB_12, kitB_13, kitB_14, kitB_15, kitB_16, kitB_17, kitB_18, kitB_19, kitB_20, kitB_21, kitB_22, vw_d, vw_n, vw_b, lst_l, val_d, val_l, arg_d, arg_n, arg_b, dat_d, dat_n, dat_b, out_d, out_n, out_b, vwA_d, vwA_b, vwAs_nil, vwAs_d, vwAs_b, ardat_nil, ardat_d, txts_l, txts_t, seq_l, seq_t, seq_f, seq_s, put_d, put_n, truth_str, truth_bl, truth_tup, truth_lst, sfit_str, sfit_bl, sfit_tup, sfit_lst, frzS, eqv_int, eqv_str, eqv_bl, plain_str, plain_int, plain_bl, plain_non, plain_tup, plain_lst, plains_nil, plains_cons, py_str, py_int, py_bl, py_non, py_tup, py_lst, pys_nil, pys_cons, dep_str, dep_int, dep_bl, dep_non, dep_tup, dep_lst, depA_nil, depA_cons, flat_str, flat_int, atI_0, atI_1, atI_2, strL_nil, strL_cons, cut_from1, cut_from2, gLen_s, gLen_l, gLen_t, gLen_f, gB_e, gI_e, gAdd_i, gAdd_s, gAdd_l, gAdd_t, gMul_i, gMul_l, gEq, gNe, gIn_s, gIn_l, gIn_t, gIsN_e, isN_non, isN_str, isN_tup, isN_int, isN_bl, isN_lst, gAll_e, gAny_e, gInt_i, gInt_b, gList_l, gList_t, gTuple_l, gTuple_t, gMin, gMax, gIx_l, gIx_t, gIx_f, gIx_s, gSl_l, gSl_f, gSl_t, gSl_s, sizeLine_eq, q_stop, q_part, q_ahead, q_pick, q_offer, q_beside, q_hide, q_rename]; simpa [poOf, q_offer, q_pick] using loop)
  | beside ys p r =>
    have loop := loop (.str (q "beside")) _ .u .u rfl
    simp only [Pl.d, Pl.head, namesD] at loop ⊢
    unfold F_names_text
    simp [wSeq, wIfS_T, wIfS_F, wIfE_T, wIfE_F, wOrT, wAndT, wNot, wTest, wCall, wCons, wNil, wVar, wC, wChain, wRet, wRetN, wEnd, wOp, wSet, wLst, wTup, wFn, wIt, wNotV, wAndV, wOrA, wSl, wPart, wPart0, wSrc, wSrcPut, wJoin, wSplit, wPartn, wAsg, wgTup, wgCons, wgNil, wgN, wApp, wExt, wDrop, wNever, wFz, wSSet, wLSet, wPwW, wPwP, wPwInc, wMakePW, wMeth, wSetPop, wAugI, wRng1, wRng2, wTrue, wipeD, startD, poOf, and_assoc, gIsi_e, tyS_non, tyS_bl, tyS_int, tyS_str, tyS_tup, tyS_lst, tyS_dct, kitB_1, kitB_2, kitB_3, kitB_4, kitB_5, kitB_6, kitB_7, kitB_8, kitB_9, kitB_10, kitB_11, kitB_12, kitB_13, kitB_14, kitB_15, kitB_16, kitB_17, kitB_18, kitB_19, kitB_20, kitB_21, kitB_22, vw_d, vw_n, vw_b, lst_l, val_d, val_l, arg_d, arg_n, arg_b, dat_d, dat_n, dat_b, out_d, out_n, out_b, vwA_d, vwA_b, vwAs_nil, vwAs_d, vwAs_b, ardat_nil, ardat_d, txts_l, txts_t, seq_l, seq_t, seq_f, seq_s, put_d, put_n, truth_str, truth_bl, truth_tup, truth_lst, sfit_str, sfit_bl, sfit_tup, sfit_lst, frzS, eqv_int, eqv_str, eqv_bl, plain_str, plain_int, plain_bl, plain_non, plain_tup, plain_lst, plains_nil, plains_cons, py_str, py_int, py_bl, py_non, py_tup, py_lst, pys_nil, pys_cons, dep_str, dep_int, dep_bl, dep_non, dep_tup, dep_lst, depA_nil, depA_cons, flat_str, flat_int, atI_0, atI_1, atI_2, strL_nil, strL_cons, cut_from1, cut_from2, gLen_s, gLen_l, gLen_t, gLen_f, gB_e, gI_e, gAdd_i, gAdd_s, gAdd_l, gAdd_t, gMul_i, gMul_l, gEq, gNe, gIn_s, gIn_l, gIn_t, gIsN_e, isN_non, isN_str, isN_tup, isN_int, isN_bl, isN_lst, gAll_e, gAny_e, gInt_i, gInt_b, gList_l, gList_t, gTuple_l, gTuple_t, gMin, gMax, gIx_l, gIx_t, gIx_f, gIx_s, gSl_l, gSl_f, gSl_t, gSl_s, sizeLine_eq, q_stop, q_part, q_ahead, q_pick, q_offer, q_beside, q_hide, q_rename]
    refine ⟨ys, rfl, okN_small hp.1, ?_⟩
    simpa [poOf, q_beside] using loop
  | hide ys p =>
    have loop := loop (.str (q "hide")) _ .u .u rfl
    simp only [Pl.d, Pl.head, namesD] at loop ⊢
    unfold F_names_text
    simp [wSeq, wIfS_T, wIfS_F, wIfE_T, wIfE_F, wOrT, wAndT, wNot, wTest, wCall, wCons, wNil, wVar, wC, wChain, wRet, wRetN, wEnd, wOp, wSet, wLst, wTup, wFn, wIt, wNotV, wAndV, wOrA, wSl, wPart, wPart0, wSrc, wSrcPut, wJoin, wSplit, wPartn, wAsg, wgTup, wgCons, wgNil, wgN, wApp, wExt, wDrop, wNever, wFz, wSSet, wLSet, wPwW, wPwP, wPwInc, wMakePW, wMeth, wSetPop, wAugI, wRng1, wRng2, wTrue, wipeD, startD, poOf, and_assoc, gIsi_e, tyS_non, tyS_bl, tyS_int, tyS_str, tyS_tup, tyS_lst, tyS_dct, kitB_1, kitB_2, kitB_3, kitB_4, kitB_5, kitB_6, kitB_7, kitB_8, kitB_9, kitB_10, kitB_11, kitB_12, kitB_13, kitB_14, kitB_15, kitB_16, kitB_17, kitB_18, kitB_19, kitB_20, kitB_21, kitB_22, vw_d, vw_n, vw_b, lst_l, val_d, val_l, arg_d, arg_n, arg_b, dat_d, dat_n, dat_b, out_d, out_n, out_b, vwA_d, vwA_b, vwAs_nil, vwAs_d, vwAs_b, ardat_nil, ardat_d, txts_l, txts_t, seq_l, seq_t, seq_f, seq_s, put_d, put_n, truth_str, truth_bl, truth_tup, truth_lst, sfit_str, sfit_bl, sfit_tup, sfit_lst, frzS, eqv_int, eqv_str, eqv_bl, plain_str, plain_int, plain_bl, plain_non, plain_tup, plain_lst, plains_nil, plains_cons, py_str, py_int, py_bl, py_non, py_tup, py_lst, pys_nil, pys_cons, dep_str, dep_int, dep_bl, dep_non, dep_tup, dep_lst, depA_nil, depA_cons, flat_str, flat_int, atI_0, atI_1, atI_2, strL_nil, strL_cons, cut_from1, cut_from2, gLen_s, gLen_l, gLen_t, gLen_f, gB_e, gI_e, gAdd_i, gAdd_s, gAdd_l, gAdd_t, gMul_i, gMul_l, gEq, gNe, gIn_s, gIn_l, gIn_t, gIsN_e, isN_non, isN_str, isN_tup, isN_int, isN_bl, isN_lst, gAll_e, gAny_e, gInt_i, gInt_b, gList_l, gList_t, gTuple_l, gTuple_t, gMin, gMax, gIx_l, gIx_t, gIx_f, gIx_s, gSl_l, gSl_f, gSl_t, gSl_s, sizeLine_eq, q_stop, q_part, q_ahead, q_pick, q_offer, q_beside, q_hide, q_rename]
    refine ⟨ys, rfl, okN_small hp.1, ?_⟩
    simpa [poOf, q_hide] using loop
  | ren ps p =>
    have loop := loop (.str (q "rename")) _ .u .u rfl
    simp only [Pl.d, Pl.head, pairsD] at loop ⊢
    unfold F_names_text
    simp [wSeq, wIfS_T, wIfS_F, wIfE_T, wIfE_F, wOrT, wAndT, wNot, wTest, wCall, wCons, wNil, wVar, wC, wChain, wRet, wRetN, wEnd, wOp, wSet, wLst, wTup, wFn, wIt, wNotV, wAndV, wOrA, wSl, wPart, wPart0, wSrc, wSrcPut, wJoin, wSplit, wPartn, wAsg, wgTup, wgCons, wgNil, wgN, wApp, wExt, wDrop, wNever, wFz, wSSet, wLSet, wPwW, wPwP, wPwInc, wMakePW, wMeth, wSetPop, wAugI, wRng1, wRng2, wTrue, wipeD, startD, poOf, and_assoc, gIsi_e, tyS_non, tyS_bl, tyS_int, tyS_str, tyS_tup, tyS_lst, tyS_dct, kitB_1, kitB_2, kitB_3, kitB_4, kitB_5, kitB_6, kitB_7, kitB_8, kitB_9, kitB_10, kitB_11, kitB_12, kitB_13, kitB_14, kitB_15, kitB_16, kitB_17, kitB_18, kitB_19, kitB_20, kitB_21, kitB_22, vw_d, vw_n, vw_b, lst_l, val_d, val_l, arg_d, arg_n, arg_b, dat_d, dat_n, dat_b, out_d, out_n, out_b, vwA_d, vwA_b, vwAs_nil, vwAs_d, vwAs_b, ardat_nil, ardat_d, txts_l, txts_t, seq_l, seq_t, seq_f, seq_s, put_d, put_n, truth_str, truth_bl, truth_tup, truth_lst, sfit_str, sfit_bl, sfit_tup, sfit_lst, frzS, eqv_int, eqv_str, eqv_bl, plain_str, plain_int, plain_bl, plain_non, plain_tup, plain_lst, plains_nil, plains_cons, py_str, py_int, py_bl, py_non, py_tup, py_lst, pys_nil, pys_cons, dep_str, dep_int, dep_bl, dep_non, dep_tup, dep_lst, depA_nil, depA_cons, flat_str, flat_int, atI_0, atI_1, atI_2, strL_nil, strL_cons, cut_from1, cut_from2, gLen_s, gLen_l, gLen_t, gLen_f, gB_e, gI_e, gAdd_i, gAdd_s, gAdd_l, gAdd_t, gMul_i, gMul_l, gEq, gNe, gIn_s, gIn_l, gIn_t, gIsN_e, isN_non, isN_str, isN_tup, isN_int, isN_bl, isN_lst, gAll_e, gAny_e, gInt_i, gInt_b, gList_l, gList_t, gTuple_l, gTuple_t, gMin, gMax, gIx_l, gIx_t, gIx_f, gIx_s, gSl_l, gSl_f, gSl_t, gSl_s, sizeLine_eq, q_stop, q_part, q_ahead, q_pick, q_offer, q_beside, q_hide, q_rename]
    refine wLc_map ps pairD (fun p => .str (pairT p)) (fun P' h => by simp [wSeq, wIfS_T, wIfS_F, wIfE_T, wIfE_F, wOrT, wAndT, wNot, wTest, wCall, wCons, wNil, wVar, wC, wChain, wRet, wRetN, wEnd, wOp, wSet, wLst, wTup, wFn, wIt, wNotV, wAndV, wOrA, wSl, wPart, wPart0, wSrc, wSrcPut, wJoin, wSplit, wPartn, wAsg, wgTup, wgCons, wgNil, wgN, wApp, wExt, wDrop, wNever, wFz, wSSet, wLSet, wPwW, wPwP, wPwInc, wMakePW, wMeth, wSetPop, wAugI, wRng1, wRng2, wTrue, wipeD, startD, poOf, and_assoc, gIsi_e, tyS_non, tyS_bl, tyS_int, tyS_str, tyS_tup, tyS_lst, tyS_dct, kitB_1, kitB_2, kitB_3, kitB_4, kitB_5, kitB_6, kitB_7, kitB_8, kitB_9, kitB_10, kitB_11, kitB_12, kitB_13, kitB_14, kitB_15, kitB_16, kitB_17, kitB_18, kitB_19, kitB_20, kitB_21, kitB_22, vw_d, vw_n, vw_b, lst_l, val_d, val_l, arg_d, arg_n, arg_b, dat_d, dat_n, dat_b, out_d, out_n, out_b, vwA_d, vwA_b, vwAs_nil, vwAs_d, vwAs_b, ardat_nil, ardat_d, txts_l, txts_t, seq_l, seq_t, seq_f, seq_s, put_d, put_n, truth_str, truth_bl, truth_tup, truth_lst, sfit_str, sfit_bl, sfit_tup, sfit_lst, frzS, eqv_int, eqv_str, eqv_bl, plain_str, plain_int, plain_bl, plain_non, plain_tup, plain_lst, plains_nil, plains_cons, py_str, py_int, py_bl, py_non, py_tup, py_lst, pys_nil, pys_cons, dep_str, dep_int, dep_bl, dep_non, dep_tup, dep_lst, depA_nil, depA_cons, flat_str, flat_int, atI_0, atI_1, atI_2, strL_nil, strL_cons, cut_from1, cut_from2, gLen_s, gLen_l, gLen_t, gLen_f, gB_e, gI_e, gAdd_i, gAdd_s, gAdd_l, gAdd_t, gMul_i, gMul_l, gEq, gNe, gIn_s, gIn_l, gIn_t, gIsN_e, isN_non, isN_str, isN_tup, isN_int, isN_bl, isN_lst, gAll_e, gAny_e, gInt_i, gInt_b, gList_l, gList_t, gTuple_l, gTuple_t, gMin, gMax, gIx_l, gIx_t, gIx_f, gIx_s, gSl_l, gSl_f, gSl_t, gSl_s]; simpa [namesD] using h) (by rw [sizeLine_eq]; have := hp.1.2.2; omega) (fun c hc K1 h K0 => ?_) ?_
    · obtain ⟨h1, h2⟩ := hp.1.1 c hc
      have l1 := (isNm_len h1).2
      have l2 := (isNm_len h2).2
      unfold pairD
      simp [wSeq, wIfS, wIfE, wOrT, wAndT, wNot, wTest, wCall, wCons, wNil, wVar, wC, wChain, wRet, wRetN, wEnd, wOp, wSet, wLst, wTup, wFn, wIt, wNotV, wAndV, wOrA, wSl, wPart, wPart0, wSrc, wSrcPut, wJoin, wSplit, wPartn, wAsg, wgTup, wgCons, wgNil, wgN, wApp, wExt, wDrop, wNever, wFz, wSSet, wLSet, wPwW, wPwP, wPwInc, wMakePW, wMeth, wSetPop, wAugI, wRng1, wRng2, wTrue, wipeD, startD, poOf, and_assoc, gIsi_e, tyS_non, tyS_bl, tyS_int, tyS_str, tyS_tup, tyS_lst, tyS_dct, kitB_1, kitB_2, kitB_3, kitB_4, kitB_5, kitB_6, kitB_7, kitB_8, kitB_9, kitB_10, kitB_11, kitB_12, kitB_13, kitB_14, kitB_15, kitB_16, kitB_17, kitB_18, kitB_19, kitB_20, kitB_21, kitB_22, vw_d, vw_n, vw_b, lst_l, val_d, val_l, arg_d, arg_n, arg_b, dat_d, dat_n, dat_b, out_d, out_n, out_b, vwA_d, vwA_b, vwAs_nil, vwAs_d, vwAs_b, ardat_nil, ardat_d, txts_l, txts_t, seq_l, seq_t, seq_f, seq_s, put_d, put_n, truth_str, truth_bl, truth_tup, truth_lst, sfit_str, sfit_bl, sfit_tup, sfit_lst, frzS, eqv_int, eqv_str, eqv_bl, plain_str, plain_int, plain_bl, plain_non, plain_tup, plain_lst, plains_nil, plains_cons, py_str, py_int, py_bl, py_non, py_tup, py_lst, pys_nil, pys_cons, dep_str, dep_int, dep_bl, dep_non, dep_tup, dep_lst, depA_nil, depA_cons, flat_str, flat_int, atI_0, atI_1, atI_2, strL_nil, strL_cons, cut_from1, cut_from2, gLen, gB, gI, gAdd, gMul, gEq, gNe, gIn, gIsN, D.isN, gAll, gAny, gInt, gList, gTuple, gMin, gMax, gIx, gSl]
      refine ⟨by rw [q_gt, sizeLine_eq]; simp; omega, by rw [q_gt, sizeLine_eq]; simp; omega, ?_⟩
      simpa [pairT] using h
    · simp [wSeq, wIfS, wIfE, wOrT, wAndT, wNot, wTest, wCall, wCons, wNil, wVar, wC, wChain, wRet, wRetN, wEnd, wOp, wSet, wLst, wTup, wFn, wIt, wNotV, wAndV, wOrA, wSl, wPart, wPart0, wSrc, wSrcPut, wJoin, wSplit, wPartn, wAsg, wgTup, wgCons, wgNil, wgN, wApp, wExt, wDrop, wNever, wFz, wSSet, wLSet, wPwW, wPwP, wPwInc, wMakePW, wMeth, wSetPop, wAugI, wRng1, wRng2, wTrue, wipeD, startD, poOf, and_assoc, gIsi_e, tyS_non, tyS_bl, tyS_int, tyS_str, tyS_tup, tyS_lst, tyS_dct, kitB_1, kitB_2, kitB_3, kitB_4, kitB_5, kitB_6, kitB_7, kitB_8, kitB_9, kitB_10, kitB_11, kitB_12, kitB_13, kitB_14, kitB_15, kitB_16, kitB_17, kitB_18, kitB_19, kitB_20, kitB_21, kitB_22, vw_d, vw_n, vw_b, lst_l, val_d, val_l, arg_d, arg_n, arg_b, dat_d, dat_n, dat_b, out_d, out_n, out_b, vwA_d, vwA_b, vwAs_nil, vwAs_d, vwAs_b, ardat_nil, ardat_d, txts_l, txts_t, seq_l, seq_t, seq_f, seq_s, put_d, put_n, truth_str, truth_bl, truth_tup, truth_lst, sfit_str, sfit_bl, sfit_tup, sfit_lst, frzS, eqv_int, eqv_str, eqv_bl, plain_str, plain_int, plain_bl, plain_non, plain_tup, plain_lst, plains_nil, plains_cons, py_str, py_int, py_bl, py_non, py_tup, py_lst, pys_nil, pys_cons, dep_str, dep_int, dep_bl, dep_non, dep_tup, dep_lst, depA_nil, depA_cons, flat_str, flat_int, atI_0, atI_1, atI_2, strL_nil, strL_cons, cut_from1, cut_from2, gLen, gB, gI, gAdd, gMul, gEq, gNe, gIn, gIsN, D.isN, gAll, gAny, gInt, gList, gTuple, gMin, gMax, gIx, gSl]
      refine ⟨ps.map pairT, by simp, okP_small hp.1, ?_⟩
      simpa [poOf, q_rename] using loop
end DL
namespace DL
open PySem PySem.Spec PyProof.Rows L2
/-! ### cutting what was joined -/
theorem cut1_no {c : Nat} : ∀ {x : List Nat}, c ∉ x → cut1 c x = [x]
  | [], _ => rfl
  | y :: r, h => by
    have h1 : ¬ y = c := fun e => h (by rw [e]; exact List.mem_cons_self)
    have ih := cut1_no (c := c) (x := r) fun z => h (List.mem_cons_of_mem _ z)
    rw [cut1, ih]
    simp [h1]
theorem cut1_app {c : Nat} {r : List Nat} : ∀ {x : List Nat}, c ∉ x → cut1 c (x ++ c :: r) = x :: cut1 c r
  | [], _ => by
    rw [List.nil_append, cut1]
    have := cut1_ne c r
    cases h : cut1 c r with
    | nil => exact absurd h this
    | cons a b => simp
  | y :: x, h => by
    have h1 : ¬ y = c := fun e => h (by rw [e]; exact List.mem_cons_self)
    have ih := cut1_app (c := c) (r := r) (x := x) fun z => h (List.mem_cons_of_mem _ z)
    rw [List.cons_append, cut1, ih]
    simp [h1]
theorem cut_join {c : Nat} : ∀ {ys : List (List Nat)}, ys ≠ [] → (∀ y ∈ ys, c ∉ y) → cut1 c (joinS [c] ys) = ys
  | [], h, _ => absurd rfl h
  | [x], _, h => by
    rw [joinS]
    exact cut1_no (h x List.mem_cons_self)
  | x :: y :: r, _, h => by
    rw [joinS, List.singleton_append, cut1_app (h x List.mem_cons_self), cut_join (by simp) fun z hz => h z (List.mem_cons_of_mem _ hz)]
theorem nm_no {y : List Nat} (h : isNm y = true) {c : Nat} (hc : c < 97) : c ∉ y := fun z => by
  have := (isNm_abc h c z).1
  omega
theorem namesT_cut {ys : List (List Nat)} (h : ∀ y ∈ ys, 44 ∉ y) (ne : ys ≠ []) : cut1 44 (namesT ys) = ys := by
  unfold namesT
  rw [if_neg (by simpa using ne), q_comma]
  exact cut_join ne h
theorem joinS_mem {sep : List Nat} {c : Nat} : ∀ {ys : List (List Nat)}, c ∈ joinS sep ys → c ∈ sep ∨ ∃ y ∈ ys, c ∈ y
  | [], h => by simp [joinS] at h
  | [x], h => .inr ⟨x, List.mem_cons_self, by simpa [joinS] using h⟩
  | x :: y :: r, h => by
    rw [joinS] at h
    rcases List.mem_append.mp h with h | h
    · exact .inr ⟨x, List.mem_cons_self, h⟩
    rcases List.mem_append.mp h with h | h
    · exact .inl h
    · rcases joinS_mem h with h | ⟨z, hz, h⟩
      · exact .inl h
      · exact .inr ⟨z, List.mem_cons_of_mem _ hz, h⟩
theorem namesT_ne {ys : List (List Nat)} (ne : ys ≠ []) (h : ∀ y ∈ ys, 45 ∉ y) : namesT ys ≠ q "-" := fun e => by
  unfold namesT at e
  rw [if_neg (by simpa using ne), q_comma, q_dash] at e
  have m : 45 ∈ joinS [44] ys := by rw [e]; exact List.mem_cons_self
  rcases joinS_mem m with m | ⟨y, hy, m⟩
  · simp at m
  · exact h y hy m
/-! ### names_in, pairs_in -/
theorem namesT_len {ys : List (List Nat)} {k : Nat} (h : ∀ y ∈ ys, y.length ≤ k) (hk : 1 ≤ k) (hm : ys.length ≤ 10) : (namesT ys).length ≤ 10 * k + 10 := by
  unfold namesT
  split
  · rw [q_dash]; simp
  · have h1 := joinS_len (q ",") ys
    rw [q_comma] at *
    have h2 : (ys.map (·.length)).sum ≤ ys.length * k := by
      clear h1 hm
      induction ys with
      | nil => simp
      | cons y r ih =>
        have h1 := h y List.mem_cons_self
        by_cases e : r = []
        · subst e; simp; omega
        · have h2 := ih (fun z hz => h z (List.mem_cons_of_mem _ hz)) (by simpa using e)
          simp only [List.map_cons, List.sum_cons, List.length_cons]
          rw [Nat.succ_mul]
          omega
    have h3 : ys.length * k ≤ 10 * k := Nat.mul_le_mul_right _ hm
    simp only [List.length_singleton, Nat.mul_one] at h1
    omega
theorem okN_len {ys : List (List Nat)} (h : okN ys) : (namesT ys).length ≤ 90 := namesT_len (k := 8) (fun y hy => (isNm_len (h.1 y hy)).2) (by decide) h.2.2
theorem pairT_len {p : List Nat × List Nat} (h1 : isNm p.1 = true) (h2 : isNm p.2 = true) : (pairT p).length ≤ 17 := by
  have := (isNm_len h1).2
  have := (isNm_len h2).2
  unfold pairT
  rw [q_gt]
  simp
  omega
theorem okP_len {ps : List (List Nat × List Nat)} (h : okP ps) : (namesT (ps.map pairT)).length ≤ 180 := namesT_len (k := 17) (fun y hy => by
  obtain ⟨p, hp, rfl⟩ := List.mem_map.mp hy
  exact pairT_len (h.1 p hp).1 (h.1 p hp).2) (by decide) (by rw [List.length_map]; exact h.2.2)
def F_names_in : FW := fun ds n R _ => ∃ ys, ds = [.str (namesT ys)] ∧ okN ys ∧ R n (.d (namesD ys))
theorem wIfS_sym {wc : WT} {w1 w2 : WS} {δ : List Sl} {n : Gh} {po : Po} (b : Bool) (h : ∀ P : Gh → Bool → Prop, P n b → wc δ n P po.px) (h1 : b = true → w1 δ n po) (h2 : b = false → w2 δ n po) : wIfS wc w1 w2 δ n po := by
  unfold wIfS
  exact h _ ⟨h1, h2⟩
theorem pu_names_in : ∀ ds n R PX, ds.length = 1 → F_names_in ds n R PX → w_names_in F_is_name (startD 3 ds) n (poOf R PXF0) := by
  rintro ds n R PX - ⟨ys, rfl, ok, hR⟩
  have hl := okN_len ok
  unfold w_names_in
  by_cases ne : ys = []
  · subst ne
    have e : namesT [] = q "-" := rfl
    rw [e]
    simp [wSeq, wIfS_T, wIfS_F, wIfE_T, wIfE_F, wOrT, wAndT, wNot, wTest, wCall, wCons, wNil, wVar, wC, wChain, wRet, wRetN, wEnd, wOp, wSet, wLst, wTup, wFn, wIt, wNotV, wAndV, wOrA, wSl, wPart, wPart0, wSrc, wSrcPut, wJoin, wSplit, wPartn, wAsg, wgTup, wgCons, wgNil, wgN, wApp, wExt, wDrop, wNever, wFz, wSSet, wLSet, wPwW, wPwP, wPwInc, wMakePW, wMeth, wSetPop, wAugI, wRng1, wRng2, wTrue, wipeD, startD, poOf, and_assoc, gIsi_e, tyS_non, tyS_bl, tyS_int, tyS_str, tyS_tup, tyS_lst, tyS_dct, kitB_1, kitB_2, kitB_3, kitB_4, kitB_5, kitB_6, kitB_7, kitB_8, kitB_9, kitB_10, kitB_11, kitB_12, kitB_13, kitB_14, kitB_15, kitB_16, kitB_17, kitB_18, kitB_19, kitB_20, kitB_21, kitB_22, vw_d, vw_n, vw_b, lst_l, val_d, val_l, arg_d, arg_n, arg_b, dat_d, dat_n, dat_b, out_d, out_n, out_b, vwA_d, vwA_b, vwAs_nil, vwAs_d, vwAs_b, ardat_nil, ardat_d, txts_l, txts_t, seq_l, seq_t, seq_f, seq_s, put_d, put_n, truth_str, truth_bl, truth_tup, truth_lst, sfit_str, sfit_bl, sfit_tup, sfit_lst, frzS, eqv_int, eqv_str, eqv_bl, plain_str, plain_int, plain_bl, plain_non, plain_tup, plain_lst, plains_nil, plains_cons, py_str, py_int, py_bl, py_non, py_tup, py_lst, pys_nil, pys_cons, dep_str, dep_int, dep_bl, dep_non, dep_tup, dep_lst, depA_nil, depA_cons, flat_str, flat_int, atI_0, atI_1, atI_2, strL_nil, strL_cons, cut_from1, cut_from2, gLen_s, gLen_l, gLen_t, gLen_f, gB_e, gI_e, gAdd_i, gAdd_s, gAdd_l, gAdd_t, gMul_i, gMul_l, gEq, gNe, gIn_s, gIn_l, gIn_t, gIsN_e, isN_non, isN_str, isN_tup, isN_int, isN_bl, isN_lst, gAll_e, gAny_e, gInt_i, gInt_b, gList_l, gList_t, gTuple_l, gTuple_t, gMin, gMax, gIx_l, gIx_t, gIx_f, gIx_s, gSl_l, gSl_f, gSl_t, gSl_s, q_dash]
    exact hR
  · have hne := namesT_ne ne fun y hy => nm_no (ok.1 y hy) (by decide)
    have hcut := namesT_cut (ys := ys) (fun y hy => nm_no (ok.1 y hy) (by decide)) ne
    have e1 : (namesT ys == q "-") = false := by simpa using hne
    simp only [wSeq]
    refine wIfS_sym false (fun P h => ?_) (fun z => by cases z) fun _ => ?_
    · simp [wSeq, wIfS_T, wIfS_F, wIfE_T, wIfE_F, wOrT, wAndT, wNot, wTest, wCall, wCons, wNil, wVar, wC, wChain, wRet, wRetN, wEnd, wOp, wSet, wLst, wTup, wFn, wIt, wNotV, wAndV, wOrA, wSl, wPart, wPart0, wSrc, wSrcPut, wJoin, wSplit, wPartn, wAsg, wgTup, wgCons, wgNil, wgN, wApp, wExt, wDrop, wNever, wFz, wSSet, wLSet, wPwW, wPwP, wPwInc, wMakePW, wMeth, wSetPop, wAugI, wRng1, wRng2, wTrue, wipeD, startD, poOf, and_assoc, gIsi_e, tyS_non, tyS_bl, tyS_int, tyS_str, tyS_tup, tyS_lst, tyS_dct, kitB_1, kitB_2, kitB_3, kitB_4, kitB_5, kitB_6, kitB_7, kitB_8, kitB_9, kitB_10, kitB_11, kitB_12, kitB_13, kitB_14, kitB_15, kitB_16, kitB_17, kitB_18, kitB_19, kitB_20, kitB_21, kitB_22, vw_d, vw_n, vw_b, lst_l, val_d, val_l, arg_d, arg_n, arg_b, dat_d, dat_n, dat_b, out_d, out_n, out_b, vwA_d, vwA_b, vwAs_nil, vwAs_d, vwAs_b, ardat_nil, ardat_d, txts_l, txts_t, seq_l, seq_t, seq_f, seq_s, put_d, put_n, truth_str, truth_bl, truth_tup, truth_lst, sfit_str, sfit_bl, sfit_tup, sfit_lst, frzS, eqv_int, eqv_str, eqv_bl, plain_str, plain_int, plain_bl, plain_non, plain_tup, plain_lst, plains_nil, plains_cons, py_str, py_int, py_bl, py_non, py_tup, py_lst, pys_nil, pys_cons, dep_str, dep_int, dep_bl, dep_non, dep_tup, dep_lst, depA_nil, depA_cons, flat_str, flat_int, atI_0, atI_1, atI_2, strL_nil, strL_cons, cut_from1, cut_from2, gLen_s, gLen_l, gLen_t, gLen_f, gB_e, gI_e, gAdd_i, gAdd_s, gAdd_l, gAdd_t, gMul_i, gMul_l, gEq, gNe, gIn_s, gIn_l, gIn_t, gIsN_e, isN_non, isN_str, isN_tup, isN_int, isN_bl, isN_lst, gAll_e, gAny_e, gInt_i, gInt_b, gList_l, gList_t, gTuple_l, gTuple_t, gMin, gMax, gIx_l, gIx_t, gIx_f, gIx_s, gSl_l, gSl_f, gSl_t, gSl_s, e1]; exact h
    simp [wSeq, wIfS_T, wIfS_F, wIfE_T, wIfE_F, wOrT, wAndT, wNot, wTest, wCall, wCons, wNil, wVar, wC, wChain, wRet, wRetN, wEnd, wOp, wSet, wLst, wTup, wFn, wIt, wNotV, wAndV, wOrA, wSl, wPart, wPart0, wSrc, wSrcPut, wJoin, wSplit, wPartn, wAsg, wgTup, wgCons, wgNil, wgN, wApp, wExt, wDrop, wNever, wFz, wSSet, wLSet, wPwW, wPwP, wPwInc, wMakePW, wMeth, wSetPop, wAugI, wRng1, wRng2, wTrue, wipeD, startD, poOf, and_assoc, gIsi_e, tyS_non, tyS_bl, tyS_int, tyS_str, tyS_tup, tyS_lst, tyS_dct, kitB_1, kitB_2, kitB_3, kitB_4, kitB_5, kitB_6, kitB_7, kitB_8, kitB_9, kitB_10, kitB_11, kitB_12, kitB_13, kitB_14, kitB_15, kitB_16, kitB_17, kitB_18, kitB_19, kitB_20, kitB_21, kitB_22, vw_d, vw_n, vw_b, lst_l, val_d, val_l, arg_d, arg_n, arg_b, dat_d, dat_n, dat_b, out_d, out_n, out_b, vwA_d, vwA_b, vwAs_nil, vwAs_d, vwAs_b, ardat_nil, ardat_d, txts_l, txts_t, seq_l, seq_t, seq_f, seq_s, put_d, put_n, truth_str, truth_bl, truth_tup, truth_lst, sfit_str, sfit_bl, sfit_tup, sfit_lst, frzS, eqv_int, eqv_str, eqv_bl, plain_str, plain_int, plain_bl, plain_non, plain_tup, plain_lst, plains_nil, plains_cons, py_str, py_int, py_bl, py_non, py_tup, py_lst, pys_nil, pys_cons, dep_str, dep_int, dep_bl, dep_non, dep_tup, dep_lst, depA_nil, depA_cons, flat_str, flat_int, atI_0, atI_1, atI_2, strL_nil, strL_cons, cut_from1, cut_from2, gLen_s, gLen_l, gLen_t, gLen_f, gB_e, gI_e, gAdd_i, gAdd_s, gAdd_l, gAdd_t, gMul_i, gMul_l, gEq, gNe, gIn_s, gIn_l, gIn_t, gIsN_e, isN_non, isN_str, isN_tup, isN_int, isN_bl, isN_lst, gAll_e, gAny_e, gInt_i, gInt_b, gList_l, gList_t, gTuple_l, gTuple_t, gMin, gMax, gIx_l, gIx_t, gIx_f, gIx_s, gSl_l, gSl_f, gSl_t, gSl_s, q_comma, hcut, sizeLine_eq]
    refine ⟨by omega, ?_⟩
    refine wIfS_sym false (fun P h => ?_) (fun z => by cases z) fun _ => ?_
    · simp [wSeq, wIfS_T, wIfS_F, wIfE_T, wIfE_F, wOrT, wAndT, wNot, wTest, wCall, wCons, wNil, wVar, wC, wChain, wRet, wRetN, wEnd, wOp, wSet, wLst, wTup, wFn, wIt, wNotV, wAndV, wOrA, wSl, wPart, wPart0, wSrc, wSrcPut, wJoin, wSplit, wPartn, wAsg, wgTup, wgCons, wgNil, wgN, wApp, wExt, wDrop, wNever, wFz, wSSet, wLSet, wPwW, wPwP, wPwInc, wMakePW, wMeth, wSetPop, wAugI, wRng1, wRng2, wTrue, wipeD, startD, poOf, and_assoc, gIsi_e, tyS_non, tyS_bl, tyS_int, tyS_str, tyS_tup, tyS_lst, tyS_dct, kitB_1, kitB_2, kitB_3, kitB_4, kitB_5, kitB_6, kitB_7, kitB_8, kitB_9, kitB_10, kitB_11, kitB_12, kitB_13, kitB_14, kitB_15, kitB_16, kitB_17, kitB_18, kitB_19, kitB_20, kitB_21, kitB_22, vw_d, vw_n, vw_b, lst_l, val_d, val_l, arg_d, arg_n, arg_b, dat_d, dat_n, dat_b, out_d, out_n, out_b, vwA_d, vwA_b, vwAs_nil, vwAs_d, vwAs_b, ardat_nil, ardat_d, txts_l, txts_t, seq_l, seq_t, seq_f, seq_s, put_d, put_n, truth_str, truth_bl, truth_tup, truth_lst, sfit_str, sfit_bl, sfit_tup, sfit_lst, frzS, eqv_int, eqv_str, eqv_bl, plain_str, plain_int, plain_bl, plain_non, plain_tup, plain_lst, plains_nil, plains_cons, py_str, py_int, py_bl, py_non, py_tup, py_lst, pys_nil, pys_cons, dep_str, dep_int, dep_bl, dep_non, dep_tup, dep_lst, depA_nil, depA_cons, flat_str, flat_int, atI_0, atI_1, atI_2, strL_nil, strL_cons, cut_from1, cut_from2, gLen_s, gLen_l, gLen_t, gLen_f, gB_e, gI_e, gAdd_i, gAdd_s, gAdd_l, gAdd_t, gMul_i, gMul_l, gEq, gNe, gIn_s, gIn_l, gIn_t, gIsN_e, isN_non, isN_str, isN_tup, isN_int, isN_bl, isN_lst, gAll_e, gAny_e, gInt_i, gInt_b, gList_l, gList_t, gTuple_l, gTuple_t, gMin, gMax, gIx_l, gIx_t, gIx_f, gIx_s, gSl_l, gSl_f, gSl_t, gSl_s]
      refine wLc_map ys D.str (fun y => .bl (isNm y)) (fun P' h => by simp [wSeq, wIfS_T, wIfS_F, wIfE_T, wIfE_F, wOrT, wAndT, wNot, wTest, wCall, wCons, wNil, wVar, wC, wChain, wRet, wRetN, wEnd, wOp, wSet, wLst, wTup, wFn, wIt, wNotV, wAndV, wOrA, wSl, wPart, wPart0, wSrc, wSrcPut, wJoin, wSplit, wPartn, wAsg, wgTup, wgCons, wgNil, wgN, wApp, wExt, wDrop, wNever, wFz, wSSet, wLSet, wPwW, wPwP, wPwInc, wMakePW, wMeth, wSetPop, wAugI, wRng1, wRng2, wTrue, wipeD, startD, poOf, and_assoc, gIsi_e, tyS_non, tyS_bl, tyS_int, tyS_str, tyS_tup, tyS_lst, tyS_dct, kitB_1, kitB_2, kitB_3, kitB_4, kitB_5, kitB_6, kitB_7, kitB_8, kitB_9, kitB_10, kitB_11, kitB_12, kitB_13, kitB_14, kitB_15, kitB_16, kitB_17, kitB_18, kitB_19, kitB_20, kitB_21, kitB_22, vw_d, vw_n, vw_b, lst_l, val_d, val_l, arg_d, arg_n, arg_b, dat_d, dat_n, dat_b, out_d, out_n, out_b, vwA_d, vwA_b, vwAs_nil, vwAs_d, vwAs_b, ardat_nil, ardat_d, txts_l, txts_t, seq_l, seq_t, seq_f, seq_s, put_d, put_n, truth_str, truth_bl, truth_tup, truth_lst, sfit_str, sfit_bl, sfit_tup, sfit_lst, frzS, eqv_int, eqv_str, eqv_bl, plain_str, plain_int, plain_bl, plain_non, plain_tup, plain_lst, plains_nil, plains_cons, py_str, py_int, py_bl, py_non, py_tup, py_lst, pys_nil, pys_cons, dep_str, dep_int, dep_bl, dep_non, dep_tup, dep_lst, depA_nil, depA_cons, flat_str, flat_int, atI_0, atI_1, atI_2, strL_nil, strL_cons, cut_from1, cut_from2, gLen_s, gLen_l, gLen_t, gLen_f, gB_e, gI_e, gAdd_i, gAdd_s, gAdd_l, gAdd_t, gMul_i, gMul_l, gEq, gNe, gIn_s, gIn_l, gIn_t, gIsN_e, isN_non, isN_str, isN_tup, isN_int, isN_bl, isN_lst, gAll_e, gAny_e, gInt_i, gInt_b, gList_l, gList_t, gTuple_l, gTuple_t, gMin, gMax, gIx_l, gIx_t, gIx_f, gIx_s, gSl_l, gSl_f, gSl_t, gSl_s]; exact h) (by rw [sizeLine_eq]; have := ok.2.2; omega) (fun y hy K1 h K0 => ?_) ?_
      · unfold F_is_name
        simp [wSeq, wIfS_T, wIfS_F, wIfE_T, wIfE_F, wOrT, wAndT, wNot, wTest, wCall, wCons, wNil, wVar, wC, wChain, wRet, wRetN, wEnd, wOp, wSet, wLst, wTup, wFn, wIt, wNotV, wAndV, wOrA, wSl, wPart, wPart0, wSrc, wSrcPut, wJoin, wSplit, wPartn, wAsg, wgTup, wgCons, wgNil, wgN, wApp, wExt, wDrop, wNever, wFz, wSSet, wLSet, wPwW, wPwP, wPwInc, wMakePW, wMeth, wSetPop, wAugI, wRng1, wRng2, wTrue, wipeD, startD, poOf, and_assoc, gIsi_e, tyS_non, tyS_bl, tyS_int, tyS_str, tyS_tup, tyS_lst, tyS_dct, kitB_1, kitB_2, kitB_3, kitB_4, kitB_5, kitB_6, kitB_7, kitB_8, kitB_9, kitB_10, kitB_11, kitB_12, kitB_13, kitB_14, kitB_15, kitB_16, kitB_17, kitB_18, kitB_19, kitB_20, kitB_21, kitB_22, vw_d, vw_n, vw_b, lst_l, val_d, val_l, arg_d, arg_n, arg_b, dat_d, dat_n, dat_b, out_d, out_n, out_b, vwA_d, vwA_b, vwAs_nil, vwAs_d, vwAs_b, ardat_nil, ardat_d, txts_l, txts_t, seq_l, seq_t, seq_f, seq_s, put_d, put_n, truth_str, truth_bl, truth_tup, truth_lst, sfit_str, sfit_bl, sfit_tup, sfit_lst, frzS, eqv_int, eqv_str, eqv_bl, plain_str, plain_int, plain_bl, plain_non, plain_tup, plain_lst, plains_nil, plains_cons, py_str, py_int, py_bl, py_non, py_tup, py_lst, pys_nil, pys_cons, dep_str, dep_int, dep_bl, dep_non, dep_tup, dep_lst, depA_nil, depA_cons, flat_str, flat_int, atI_0, atI_1, atI_2, strL_nil, strL_cons, cut_from1, cut_from2, gLen_s, gLen_l, gLen_t, gLen_f, gB_e, gI_e, gAdd_i, gAdd_s, gAdd_l, gAdd_t, gMul_i, gMul_l, gEq, gNe, gIn_s, gIn_l, gIn_t, gIsN_e, isN_non, isN_str, isN_tup, isN_int, isN_bl, isN_lst, gAll_e, gAny_e, gInt_i, gInt_b, gList_l, gList_t, gTuple_l, gTuple_t, gMin, gMax, gIx_l, gIx_t, gIx_f, gIx_s, gSl_l, gSl_f, gSl_t, gSl_s]
        exact ⟨by rw [sizeLine_eq]; have := (isNm_len (ok.1 y hy)).2; omega, h⟩
      · have ea : (ys.map fun y => D.bl (isNm y)).all D.tru = true := by
          rw [List.all_map]
          exact List.all_eq_true.mpr fun y hy => ok.1 y hy
        simp [wSeq, wIfS_T, wIfS_F, wIfE_T, wIfE_F, wOrT, wAndT, wNot, wTest, wCall, wCons, wNil, wVar, wC, wChain, wRet, wRetN, wEnd, wOp, wSet, wLst, wTup, wFn, wIt, wNotV, wAndV, wOrA, wSl, wPart, wPart0, wSrc, wSrcPut, wJoin, wSplit, wPartn, wAsg, wgTup, wgCons, wgNil, wgN, wApp, wExt, wDrop, wNever, wFz, wSSet, wLSet, wPwW, wPwP, wPwInc, wMakePW, wMeth, wSetPop, wAugI, wRng1, wRng2, wTrue, wipeD, startD, poOf, and_assoc, gIsi_e, tyS_non, tyS_bl, tyS_int, tyS_str, tyS_tup, tyS_lst, tyS_dct, kitB_1, kitB_2, kitB_3, kitB_4, kitB_5, kitB_6, kitB_7, kitB_8, kitB_9, kitB_10, kitB_11, kitB_12, kitB_13, kitB_14, kitB_15, kitB_16, kitB_17, kitB_18, kitB_19, kitB_20, kitB_21, kitB_22, vw_d, vw_n, vw_b, lst_l, val_d, val_l, arg_d, arg_n, arg_b, dat_d, dat_n, dat_b, out_d, out_n, out_b, vwA_d, vwA_b, vwAs_nil, vwAs_d, vwAs_b, ardat_nil, ardat_d, txts_l, txts_t, seq_l, seq_t, seq_f, seq_s, put_d, put_n, truth_str, truth_bl, truth_tup, truth_lst, sfit_str, sfit_bl, sfit_tup, sfit_lst, frzS, eqv_int, eqv_str, eqv_bl, plain_str, plain_int, plain_bl, plain_non, plain_tup, plain_lst, plains_nil, plains_cons, py_str, py_int, py_bl, py_non, py_tup, py_lst, pys_nil, pys_cons, dep_str, dep_int, dep_bl, dep_non, dep_tup, dep_lst, depA_nil, depA_cons, flat_str, flat_int, atI_0, atI_1, atI_2, strL_nil, strL_cons, cut_from1, cut_from2, gLen_s, gLen_l, gLen_t, gLen_f, gB_e, gI_e, gAdd_i, gAdd_s, gAdd_l, gAdd_t, gMul_i, gMul_l, gEq, gNe, gIn_s, gIn_l, gIn_t, gIsN_e, isN_non, isN_str, isN_tup, isN_int, isN_bl, isN_lst, gAll_e, gAny_e, gInt_i, gInt_b, gList_l, gList_t, gTuple_l, gTuple_t, gMin, gMax, gIx_l, gIx_t, gIx_f, gIx_s, gSl_l, gSl_f, gSl_t, gSl_s, D.isB, ea, D.strL_map, (dd_len ys).2.mpr ok.2.1]
        have sb : ys.length + 1 < scanBound := by unfold scanBound; have := ok.2.2; omega
        have hx : ∀ x ∈ ys, D.tru (D.bl (isNm x)) = true := ok.1
        exact ⟨sb, h⟩
    simp [wSeq, wIfS_T, wIfS_F, wIfE_T, wIfE_F, wOrT, wAndT, wNot, wTest, wCall, wCons, wNil, wVar, wC, wChain, wRet, wRetN, wEnd, wOp, wSet, wLst, wTup, wFn, wIt, wNotV, wAndV, wOrA, wSl, wPart, wPart0, wSrc, wSrcPut, wJoin, wSplit, wPartn, wAsg, wgTup, wgCons, wgNil, wgN, wApp, wExt, wDrop, wNever, wFz, wSSet, wLSet, wPwW, wPwP, wPwInc, wMakePW, wMeth, wSetPop, wAugI, wRng1, wRng2, wTrue, wipeD, startD, poOf, and_assoc, gIsi_e, tyS_non, tyS_bl, tyS_int, tyS_str, tyS_tup, tyS_lst, tyS_dct, kitB_1, kitB_2, kitB_3, kitB_4, kitB_5, kitB_6, kitB_7, kitB_8, kitB_9, kitB_10, kitB_11, kitB_12, kitB_13, kitB_14, kitB_15, kitB_16, kitB_17, kitB_18, kitB_19, kitB_20, kitB_21, kitB_22, vw_d, vw_n, vw_b, lst_l, val_d, val_l, arg_d, arg_n, arg_b, dat_d, dat_n, dat_b, out_d, out_n, out_b, vwA_d, vwA_b, vwAs_nil, vwAs_d, vwAs_b, ardat_nil, ardat_d, txts_l, txts_t, seq_l, seq_t, seq_f, seq_s, put_d, put_n, truth_str, truth_bl, truth_tup, truth_lst, sfit_str, sfit_bl, sfit_tup, sfit_lst, frzS, eqv_int, eqv_str, eqv_bl, plain_str, plain_int, plain_bl, plain_non, plain_tup, plain_lst, plains_nil, plains_cons, py_str, py_int, py_bl, py_non, py_tup, py_lst, pys_nil, pys_cons, dep_str, dep_int, dep_bl, dep_non, dep_tup, dep_lst, depA_nil, depA_cons, flat_str, flat_int, atI_0, atI_1, atI_2, strL_nil, strL_cons, cut_from1, cut_from2, gLen_s, gLen_l, gLen_t, gLen_f, gB_e, gI_e, gAdd_i, gAdd_s, gAdd_l, gAdd_t, gMul_i, gMul_l, gEq, gNe, gIn_s, gIn_l, gIn_t, gIsN_e, isN_non, isN_str, isN_tup, isN_int, isN_bl, isN_lst, gAll_e, gAny_e, gInt_i, gInt_b, gList_l, gList_t, gTuple_l, gTuple_t, gMin, gMax, gIx_l, gIx_t, gIx_f, gIx_s, gSl_l, gSl_f, gSl_t, gSl_s]
    exact hR
def F_pairs_in : FW := fun ds n R _ => ∃ ps, ds = [.str (namesT (ps.map pairT))] ∧ okP ps ∧ R n (.d (pairsD ps))
theorem pairT_par {p : List Nat × List Nat} (h1 : isNm p.1 = true) : par1 62 (pairT p) = (p.1, [62], p.2) := by
  unfold pairT
  rw [q_gt, List.append_assoc]
  exact par1_some (nm_no h1 (by decide))
theorem pairT_no {p : List Nat × List Nat} (h1 : isNm p.1 = true) (h2 : isNm p.2 = true) {c : Nat} (hc : c < 97) (h3 : c ≠ 62) : c ∉ pairT p := fun z => by
  unfold pairT at z
  rw [q_gt] at z
  rcases List.mem_append.mp z with z | z
  · rcases List.mem_append.mp z with z | z
    · exact nm_no h1 hc z
    · exact h3 (List.mem_singleton.mp z)
  · exact nm_no h2 hc z
theorem pu_pairs_in : ∀ ds n R PX, ds.length = 1 → F_pairs_in ds n R PX → w_pairs_in F_is_name (startD 7 ds) n (poOf R PXF0) := by
  rintro ds n R PX - ⟨ps, rfl, ok, hR⟩
  have hl := okP_len ok
  unfold w_pairs_in
  by_cases ne : ps = []
  · subst ne
    have e : namesT (([] : List (List Nat × List Nat)).map pairT) = q "-" := rfl
    rw [e]
    simp [wSeq, wIfS_T, wIfS_F, wIfE_T, wIfE_F, wOrT, wAndT, wNot, wTest, wCall, wCons, wNil, wVar, wC, wChain, wRet, wRetN, wEnd, wOp, wSet, wLst, wTup, wFn, wIt, wNotV, wAndV, wOrA, wSl, wPart, wPart0, wSrc, wSrcPut, wJoin, wSplit, wPartn, wAsg, wgTup, wgCons, wgNil, wgN, wApp, wExt, wDrop, wNever, wFz, wSSet, wLSet, wPwW, wPwP, wPwInc, wMakePW, wMeth, wSetPop, wAugI, wRng1, wRng2, wTrue, wipeD, startD, poOf, and_assoc, gIsi_e, tyS_non, tyS_bl, tyS_int, tyS_str, tyS_tup, tyS_lst, tyS_dct, kitB_1, kitB_2, kitB_3, kitB_4, kitB_5, kitB_6, kitB_7, kitB_8, kitB_9, kitB_10, kitB_11, kitB_12, kitB_13, kitB_14, kitB_15, kitB_16, kitB_17, kitB_18, kitB_19, kitB_20, kitB_21, kitB_22, vw_d, vw_n, vw_b, lst_l, val_d, val_l, arg_d, arg_n, arg_b, dat_d, dat_n, dat_b, out_d, out_n, out_b, vwA_d, vwA_b, vwAs_nil, vwAs_d, vwAs_b, ardat_nil, ardat_d, txts_l, txts_t, seq_l, seq_t, seq_f, seq_s, put_d, put_n, truth_str, truth_bl, truth_tup, truth_lst, sfit_str, sfit_bl, sfit_tup, sfit_lst, frzS, eqv_int, eqv_str, eqv_bl, plain_str, plain_int, plain_bl, plain_non, plain_tup, plain_lst, plains_nil, plains_cons, py_str, py_int, py_bl, py_non, py_tup, py_lst, pys_nil, pys_cons, dep_str, dep_int, dep_bl, dep_non, dep_tup, dep_lst, depA_nil, depA_cons, flat_str, flat_int, atI_0, atI_1, atI_2, strL_nil, strL_cons, cut_from1, cut_from2, gLen_s, gLen_l, gLen_t, gLen_f, gB_e, gI_e, gAdd_i, gAdd_s, gAdd_l, gAdd_t, gMul_i, gMul_l, gEq, gNe, gIn_s, gIn_l, gIn_t, gIsN_e, isN_non, isN_str, isN_tup, isN_int, isN_bl, isN_lst, gAll_e, gAny_e, gInt_i, gInt_b, gList_l, gList_t, gTuple_l, gTuple_t, gMin, gMax, gIx_l, gIx_t, gIx_f, gIx_s, gSl_l, gSl_f, gSl_t, gSl_s, q_dash]
    exact hR
  · have hno : ∀ c : Nat, c < 97 → c ≠ 62 → ∀ y ∈ ps.map pairT, c ∉ y := fun c h1 h2 y hy => by
      obtain ⟨p, hp, rfl⟩ := List.mem_map.mp hy
      exact pairT_no (ok.1 p hp).1 (ok.1 p hp).2 h1 h2
    have ne2 : ps.map pairT ≠ [] := by simpa using ne
    have hne := namesT_ne ne2 (hno 45 (by decide) (by decide))
    have hcut := namesT_cut (ys := ps.map pairT) (hno 44 (by decide) (by decide)) ne2
    have e1 : (namesT (ps.map pairT) == q "-") = false := by simpa using hne
    simp only [wSeq]
    refine wIfS_sym false (fun P h => ?_) (fun z => by cases z) fun _ => ?_
    · simp [wSeq, wIfS_T, wIfS_F, wIfE_T, wIfE_F, wOrT, wAndT, wNot, wTest, wCall, wCons, wNil, wVar, wC, wChain, wRet, wRetN, wEnd, wOp, wSet, wLst, wTup, wFn, wIt, wNotV, wAndV, wOrA, wSl, wPart, wPart0, wSrc, wSrcPut, wJoin, wSplit, wPartn, wAsg, wgTup, wgCons, wgNil, wgN, wApp, wExt, wDrop, wNever, wFz, wSSet, wLSet, wPwW, wPwP, wPwInc, wMakePW, wMeth, wSetPop, wAugI, wRng1, wRng2, wTrue, wipeD, startD, poOf, and_assoc, gIsi_e, tyS_non, tyS_bl, tyS_int, tyS_str, tyS_tup, tyS_lst, tyS_dct, kitB_1, kitB_2, kitB_3, kitB_4, kitB_5, kitB_6, kitB_7, kitB_8, kitB_9, kitB_10, kitB_11, kitB_12, kitB_13, kitB_14, kitB_15, kitB_16, kitB_17, kitB_18, kitB_19, kitB_20, kitB_21, kitB_22, vw_d, vw_n, vw_b, lst_l, val_d, val_l, arg_d, arg_n, arg_b, dat_d, dat_n, dat_b, out_d, out_n, out_b, vwA_d, vwA_b, vwAs_nil, vwAs_d, vwAs_b, ardat_nil, ardat_d, txts_l, txts_t, seq_l, seq_t, seq_f, seq_s, put_d, put_n, truth_str, truth_bl, truth_tup, truth_lst, sfit_str, sfit_bl, sfit_tup, sfit_lst, frzS, eqv_int, eqv_str, eqv_bl, plain_str, plain_int, plain_bl, plain_non, plain_tup, plain_lst, plains_nil, plains_cons, py_str, py_int, py_bl, py_non, py_tup, py_lst, pys_nil, pys_cons, dep_str, dep_int, dep_bl, dep_non, dep_tup, dep_lst, depA_nil, depA_cons, flat_str, flat_int, atI_0, atI_1, atI_2, strL_nil, strL_cons, cut_from1, cut_from2, gLen_s, gLen_l, gLen_t, gLen_f, gB_e, gI_e, gAdd_i, gAdd_s, gAdd_l, gAdd_t, gMul_i, gMul_l, gEq, gNe, gIn_s, gIn_l, gIn_t, gIsN_e, isN_non, isN_str, isN_tup, isN_int, isN_bl, isN_lst, gAll_e, gAny_e, gInt_i, gInt_b, gList_l, gList_t, gTuple_l, gTuple_t, gMin, gMax, gIx_l, gIx_t, gIx_f, gIx_s, gSl_l, gSl_f, gSl_t, gSl_s, e1]; exact h
    refine (show wSet 1 (wLst wNil) _ _ _ from ?_)
    simp only [wSet, wLst, wNil]
    refine ⟨_, rfl, by rw [sizeLine_eq]; decide, _, rfl, ?_⟩
    refine wFor_i ps (fun p => .str (pairT p)) n (fun i δ m => m = n ∧ ∃ s2 s3 s4 s5, δ = [.d (.str (namesT (ps.map pairT))), .l ((ps.take i).map pairD), s2, s3, s4, s5, .u]) (fun P' h => ?_) ⟨rfl, .u, .u, .u, .u, by simp [startD]⟩ ?_ ?_
    · simp [wSeq, wIfS_T, wIfS_F, wIfE_T, wIfE_F, wOrT, wAndT, wNot, wTest, wCall, wCons, wNil, wVar, wC, wChain, wRet, wRetN, wEnd, wOp, wSet, wLst, wTup, wFn, wIt, wNotV, wAndV, wOrA, wSl, wPart, wPart0, wSrc, wSrcPut, wJoin, wSplit, wPartn, wAsg, wgTup, wgCons, wgNil, wgN, wApp, wExt, wDrop, wNever, wFz, wSSet, wLSet, wPwW, wPwP, wPwInc, wMakePW, wMeth, wSetPop, wAugI, wRng1, wRng2, wTrue, wipeD, startD, poOf, and_assoc, gIsi_e, tyS_non, tyS_bl, tyS_int, tyS_str, tyS_tup, tyS_lst, tyS_dct, kitB_1, kitB_2, kitB_3, kitB_4, kitB_5, kitB_6, kitB_7, kitB_8, kitB_9, kitB_10, kitB_11, kitB_12, kitB_13, kitB_14, kitB_15, kitB_16, kitB_17, kitB_18, kitB_19, kitB_20, kitB_21, kitB_22, vw_d, vw_n, vw_b, lst_l, val_d, val_l, arg_d, arg_n, arg_b, dat_d, dat_n, dat_b, out_d, out_n, out_b, vwA_d, vwA_b, vwAs_nil, vwAs_d, vwAs_b, ardat_nil, ardat_d, txts_l, txts_t, seq_l, seq_t, seq_f, seq_s, put_d, put_n, truth_str, truth_bl, truth_tup, truth_lst, sfit_str, sfit_bl, sfit_tup, sfit_lst, frzS, eqv_int, eqv_str, eqv_bl, plain_str, plain_int, plain_bl, plain_non, plain_tup, plain_lst, plains_nil, plains_cons, py_str, py_int, py_bl, py_non, py_tup, py_lst, pys_nil, pys_cons, dep_str, dep_int, dep_bl, dep_non, dep_tup, dep_lst, depA_nil, depA_cons, flat_str, flat_int, atI_0, atI_1, atI_2, strL_nil, strL_cons, cut_from1, cut_from2, gLen_s, gLen_l, gLen_t, gLen_f, gB_e, gI_e, gAdd_i, gAdd_s, gAdd_l, gAdd_t, gMul_i, gMul_l, gEq, gNe, gIn_s, gIn_l, gIn_t, gIsN_e, isN_non, isN_str, isN_tup, isN_int, isN_bl, isN_lst, gAll_e, gAny_e, gInt_i, gInt_b, gList_l, gList_t, gTuple_l, gTuple_t, gMin, gMax, gIx_l, gIx_t, gIx_f, gIx_s, gSl_l, gSl_f, gSl_t, gSl_s, q_comma, hcut, sizeLine_eq]
      exact ⟨by omega, by simpa [Function.comp_def] using h⟩
    · rintro i δ m p hp ⟨rfl, s2, s3, s4, s5, rfl⟩
      have hm := List.mem_of_getElem? hp
      obtain ⟨h1, h2⟩ := ok.1 p hm
      have hpl := pairT_len h1 h2
      simp [wSeq, wIfS_T, wIfS_F, wIfE_T, wIfE_F, wOrT, wAndT, wNot, wTest, wCall, wCons, wNil, wVar, wC, wChain, wRet, wRetN, wEnd, wOp, wSet, wLst, wTup, wFn, wIt, wNotV, wAndV, wOrA, wSl, wPart, wPart0, wSrc, wSrcPut, wJoin, wSplit, wPartn, wAsg, wgTup, wgCons, wgNil, wgN, wApp, wExt, wDrop, wNever, wFz, wSSet, wLSet, wPwW, wPwP, wPwInc, wMakePW, wMeth, wSetPop, wAugI, wRng1, wRng2, wTrue, wipeD, startD, poOf, and_assoc, gIsi_e, tyS_non, tyS_bl, tyS_int, tyS_str, tyS_tup, tyS_lst, tyS_dct, kitB_1, kitB_2, kitB_3, kitB_4, kitB_5, kitB_6, kitB_7, kitB_8, kitB_9, kitB_10, kitB_11, kitB_12, kitB_13, kitB_14, kitB_15, kitB_16, kitB_17, kitB_18, kitB_19, kitB_20, kitB_21, kitB_22, vw_d, vw_n, vw_b, lst_l, val_d, val_l, arg_d, arg_n, arg_b, dat_d, dat_n, dat_b, out_d, out_n, out_b, vwA_d, vwA_b, vwAs_nil, vwAs_d, vwAs_b, ardat_nil, ardat_d, txts_l, txts_t, seq_l, seq_t, seq_f, seq_s, put_d, put_n, truth_str, truth_bl, truth_tup, truth_lst, sfit_str, sfit_bl, sfit_tup, sfit_lst, frzS, eqv_int, eqv_str, eqv_bl, plain_str, plain_int, plain_bl, plain_non, plain_tup, plain_lst, plains_nil, plains_cons, py_str, py_int, py_bl, py_non, py_tup, py_lst, pys_nil, pys_cons, dep_str, dep_int, dep_bl, dep_non, dep_tup, dep_lst, depA_nil, depA_cons, flat_str, flat_int, atI_0, atI_1, atI_2, strL_nil, strL_cons, cut_from1, cut_from2, gLen_s, gLen_l, gLen_t, gLen_f, gB_e, gI_e, gAdd_i, gAdd_s, gAdd_l, gAdd_t, gMul_i, gMul_l, gEq, gNe, gIn_s, gIn_l, gIn_t, gIsN_e, isN_non, isN_str, isN_tup, isN_int, isN_bl, isN_lst, gAll_e, gAny_e, gInt_i, gInt_b, gList_l, gList_t, gTuple_l, gTuple_t, gMin, gMax, gIx_l, gIx_t, gIx_f, gIx_s, gSl_l, gSl_f, gSl_t, gSl_s, q_gt, pairT_par h1, sizeLine_eq]
      refine ⟨by omega, ?_⟩
      refine wIfS_sym false (fun P h => ?_) (fun z => by cases z) fun _ => ?_
      · unfold F_is_name
        simp [wSeq, wIfS_T, wIfS_F, wIfE_T, wIfE_F, wOrT, wAndT, wNot, wTest, wCall, wCons, wNil, wVar, wC, wChain, wRet, wRetN, wEnd, wOp, wSet, wLst, wTup, wFn, wIt, wNotV, wAndV, wOrA, wSl, wPart, wPart0, wSrc, wSrcPut, wJoin, wSplit, wPartn, wAsg, wgTup, wgCons, wgNil, wgN, wApp, wExt, wDrop, wNever, wFz, wSSet, wLSet, wPwW, wPwP, wPwInc, wMakePW, wMeth, wSetPop, wAugI, wRng1, wRng2, wTrue, wipeD, startD, poOf, and_assoc, gIsi_e, tyS_non, tyS_bl, tyS_int, tyS_str, tyS_tup, tyS_lst, tyS_dct, kitB_1, kitB_2, kitB_3, kitB_4, kitB_5, kitB_6, kitB_7, kitB_8, kitB_9, kitB_10, kitB_11, kitB_12, kitB_13, kitB_14, kitB_15, kitB_16, kitB_17, kitB_18, kitB_19, kitB_20, kitB_21, kitB_22, vw_d, vw_n, vw_b, lst_l, val_d, val_l, arg_d, arg_n, arg_b, dat_d, dat_n, dat_b, out_d, out_n, out_b, vwA_d, vwA_b, vwAs_nil, vwAs_d, vwAs_b, ardat_nil, ardat_d, txts_l, txts_t, seq_l, seq_t, seq_f, seq_s, put_d, put_n, truth_str, truth_bl, truth_tup, truth_lst, sfit_str, sfit_bl, sfit_tup, sfit_lst, frzS, eqv_int, eqv_str, eqv_bl, plain_str, plain_int, plain_bl, plain_non, plain_tup, plain_lst, plains_nil, plains_cons, py_str, py_int, py_bl, py_non, py_tup, py_lst, pys_nil, pys_cons, dep_str, dep_int, dep_bl, dep_non, dep_tup, dep_lst, depA_nil, depA_cons, flat_str, flat_int, atI_0, atI_1, atI_2, strL_nil, strL_cons, cut_from1, cut_from2, gLen_s, gLen_l, gLen_t, gLen_f, gB_e, gI_e, gAdd_i, gAdd_s, gAdd_l, gAdd_t, gMul_i, gMul_l, gEq, gNe, gIn_s, gIn_l, gIn_t, gIsN_e, isN_non, isN_str, isN_tup, isN_int, isN_bl, isN_lst, gAll_e, gAny_e, gInt_i, gInt_b, gList_l, gList_t, gTuple_l, gTuple_t, gMin, gMax, gIx_l, gIx_t, gIx_f, gIx_s, gSl_l, gSl_f, gSl_t, gSl_s, h1, h2, sizeLine_eq]
        exact ⟨by have := (isNm_len h1).2; omega, by have := (isNm_len h2).2; omega, h⟩
      simp [wSeq, wIfS_T, wIfS_F, wIfE_T, wIfE_F, wOrT, wAndT, wNot, wTest, wCall, wCons, wNil, wVar, wC, wChain, wRet, wRetN, wEnd, wOp, wSet, wLst, wTup, wFn, wIt, wNotV, wAndV, wOrA, wSl, wPart, wPart0, wSrc, wSrcPut, wJoin, wSplit, wPartn, wAsg, wgTup, wgCons, wgNil, wgN, wApp, wExt, wDrop, wNever, wFz, wSSet, wLSet, wPwW, wPwP, wPwInc, wMakePW, wMeth, wSetPop, wAugI, wRng1, wRng2, wTrue, wipeD, startD, poOf, and_assoc, gIsi_e, tyS_non, tyS_bl, tyS_int, tyS_str, tyS_tup, tyS_lst, tyS_dct, kitB_1, kitB_2, kitB_3, kitB_4, kitB_5, kitB_6, kitB_7, kitB_8, kitB_9, kitB_10, kitB_11, kitB_12, kitB_13, kitB_14, kitB_15, kitB_16, kitB_17, kitB_18, kitB_19, kitB_20, kitB_21, kitB_22, vw_d, vw_n, vw_b, lst_l, val_d, val_l, arg_d, arg_n, arg_b, dat_d, dat_n, dat_b, out_d, out_n, out_b, vwA_d, vwA_b, vwAs_nil, vwAs_d, vwAs_b, ardat_nil, ardat_d, txts_l, txts_t, seq_l, seq_t, seq_f, seq_s, put_d, put_n, truth_str, truth_bl, truth_tup, truth_lst, sfit_str, sfit_bl, sfit_tup, sfit_lst, frzS, eqv_int, eqv_str, eqv_bl, plain_str, plain_int, plain_bl, plain_non, plain_tup, plain_lst, plains_nil, plains_cons, py_str, py_int, py_bl, py_non, py_tup, py_lst, pys_nil, pys_cons, dep_str, dep_int, dep_bl, dep_non, dep_tup, dep_lst, depA_nil, depA_cons, flat_str, flat_int, atI_0, atI_1, atI_2, strL_nil, strL_cons, cut_from1, cut_from2, gLen_s, gLen_l, gLen_t, gLen_f, gB_e, gI_e, gAdd_i, gAdd_s, gAdd_l, gAdd_t, gMul_i, gMul_l, gEq, gNe, gIn_s, gIn_l, gIn_t, gIsN_e, isN_non, isN_str, isN_tup, isN_int, isN_bl, isN_lst, gAll_e, gAny_e, gInt_i, gInt_b, gList_l, gList_t, gTuple_l, gTuple_t, gMin, gMax, gIx_l, gIx_t, gIx_f, gIx_s, gSl_l, gSl_f, gSl_t, gSl_s, sizeLine_eq]
      have e : ps.take (i + 1) = ps.take i ++ [p] := by rw [List.take_add_one, hp]; rfl
      refine ⟨by have := ok.2.2; omega, ?_⟩
      rw [← List.map_take, ← List.map_take, e]
      simp [pairD]
    · rintro δ m ⟨rfl, s2, s3, s4, s5, rfl⟩
      simp [wSeq, wIfS_T, wIfS_F, wIfE_T, wIfE_F, wOrT, wAndT, wNot, wTest, wCall, wCons, wNil, wVar, wC, wChain, wRet, wRetN, wEnd, wOp, wSet, wLst, wTup, wFn, wIt, wNotV, wAndV, wOrA, wSl, wPart, wPart0, wSrc, wSrcPut, wJoin, wSplit, wPartn, wAsg, wgTup, wgCons, wgNil, wgN, wApp, wExt, wDrop, wNever, wFz, wSSet, wLSet, wPwW, wPwP, wPwInc, wMakePW, wMeth, wSetPop, wAugI, wRng1, wRng2, wTrue, wipeD, startD, poOf, and_assoc, gIsi_e, tyS_non, tyS_bl, tyS_int, tyS_str, tyS_tup, tyS_lst, tyS_dct, kitB_1, kitB_2, kitB_3, kitB_4, kitB_5, kitB_6, kitB_7, kitB_8, kitB_9, kitB_10, kitB_11, kitB_12, kitB_13, kitB_14, kitB_15, kitB_16, kitB_17, kitB_18, kitB_19, kitB_20, kitB_21, kitB_22, vw_d, vw_n, vw_b, lst_l, val_d, val_l, arg_d, arg_n, arg_b, dat_d, dat_n, dat_b, out_d, out_n, out_b, vwA_d, vwA_b, vwAs_nil, vwAs_d, vwAs_b, ardat_nil, ardat_d, txts_l, txts_t, seq_l, seq_t, seq_f, seq_s, put_d, put_n, truth_str, truth_bl, truth_tup, truth_lst, sfit_str, sfit_bl, sfit_tup, sfit_lst, frzS, eqv_int, eqv_str, eqv_bl, plain_str, plain_int, plain_bl, plain_non, plain_tup, plain_lst, plains_nil, plains_cons, py_str, py_int, py_bl, py_non, py_tup, py_lst, pys_nil, pys_cons, dep_str, dep_int, dep_bl, dep_non, dep_tup, dep_lst, depA_nil, depA_cons, flat_str, flat_int, atI_0, atI_1, atI_2, strL_nil, strL_cons, cut_from1, cut_from2, gLen_s, gLen_l, gLen_t, gLen_f, gB_e, gI_e, gAdd_i, gAdd_s, gAdd_l, gAdd_t, gMul_i, gMul_l, gEq, gNe, gIn_s, gIn_l, gIn_t, gIsN_e, isN_non, isN_str, isN_tup, isN_int, isN_bl, isN_lst, gAll_e, gAny_e, gInt_i, gInt_b, gList_l, gList_t, gTuple_l, gTuple_t, gMin, gMax, gIx_l, gIx_t, gIx_f, gIx_s, gSl_l, gSl_f, gSl_t, gSl_s]
      refine wIfS_sym false (fun P h => ?_) (fun z => by cases z) fun _ => ?_
      · simp [wSeq, wIfS_T, wIfS_F, wIfE_T, wIfE_F, wOrT, wAndT, wNot, wTest, wCall, wCons, wNil, wVar, wC, wChain, wRet, wRetN, wEnd, wOp, wSet, wLst, wTup, wFn, wIt, wNotV, wAndV, wOrA, wSl, wPart, wPart0, wSrc, wSrcPut, wJoin, wSplit, wPartn, wAsg, wgTup, wgCons, wgNil, wgN, wApp, wExt, wDrop, wNever, wFz, wSSet, wLSet, wPwW, wPwP, wPwInc, wMakePW, wMeth, wSetPop, wAugI, wRng1, wRng2, wTrue, wipeD, startD, poOf, and_assoc, gIsi_e, tyS_non, tyS_bl, tyS_int, tyS_str, tyS_tup, tyS_lst, tyS_dct, kitB_1, kitB_2, kitB_3, kitB_4, kitB_5, kitB_6, kitB_7, kitB_8, kitB_9, kitB_10, kitB_11, kitB_12, kitB_13, kitB_14, kitB_15, kitB_16, kitB_17, kitB_18, kitB_19, kitB_20, kitB_21, kitB_22, vw_d, vw_n, vw_b, lst_l, val_d, val_l, arg_d, arg_n, arg_b, dat_d, dat_n, dat_b, out_d, out_n, out_b, vwA_d, vwA_b, vwAs_nil, vwAs_d, vwAs_b, ardat_nil, ardat_d, txts_l, txts_t, seq_l, seq_t, seq_f, seq_s, put_d, put_n, truth_str, truth_bl, truth_tup, truth_lst, sfit_str, sfit_bl, sfit_tup, sfit_lst, frzS, eqv_int, eqv_str, eqv_bl, plain_str, plain_int, plain_bl, plain_non, plain_tup, plain_lst, plains_nil, plains_cons, py_str, py_int, py_bl, py_non, py_tup, py_lst, pys_nil, pys_cons, dep_str, dep_int, dep_bl, dep_non, dep_tup, dep_lst, depA_nil, depA_cons, flat_str, flat_int, atI_0, atI_1, atI_2, strL_nil, strL_cons, cut_from1, cut_from2, gLen_s, gLen_l, gLen_t, gLen_f, gB_e, gI_e, gAdd_i, gAdd_s, gAdd_l, gAdd_t, gMul_i, gMul_l, gEq, gNe, gIn_s, gIn_l, gIn_t, gIsN_e, isN_non, isN_str, isN_tup, isN_int, isN_bl, isN_lst, gAll_e, gAny_e, gInt_i, gInt_b, gList_l, gList_t, gTuple_l, gTuple_t, gMin, gMax, gIx_l, gIx_t, gIx_f, gIx_s, gSl_l, gSl_f, gSl_t, gSl_s]
        refine wLc_map ps pairD (fun p => .str p.1) (fun P' h => by simp [wSeq, wIfS_T, wIfS_F, wIfE_T, wIfE_F, wOrT, wAndT, wNot, wTest, wCall, wCons, wNil, wVar, wC, wChain, wRet, wRetN, wEnd, wOp, wSet, wLst, wTup, wFn, wIt, wNotV, wAndV, wOrA, wSl, wPart, wPart0, wSrc, wSrcPut, wJoin, wSplit, wPartn, wAsg, wgTup, wgCons, wgNil, wgN, wApp, wExt, wDrop, wNever, wFz, wSSet, wLSet, wPwW, wPwP, wPwInc, wMakePW, wMeth, wSetPop, wAugI, wRng1, wRng2, wTrue, wipeD, startD, poOf, and_assoc, gIsi_e, tyS_non, tyS_bl, tyS_int, tyS_str, tyS_tup, tyS_lst, tyS_dct, kitB_1, kitB_2, kitB_3, kitB_4, kitB_5, kitB_6, kitB_7, kitB_8, kitB_9, kitB_10, kitB_11, kitB_12, kitB_13, kitB_14, kitB_15, kitB_16, kitB_17, kitB_18, kitB_19, kitB_20, kitB_21, kitB_22, vw_d, vw_n, vw_b, lst_l, val_d, val_l, arg_d, arg_n, arg_b, dat_d, dat_n, dat_b, out_d, out_n, out_b, vwA_d, vwA_b, vwAs_nil, vwAs_d, vwAs_b, ardat_nil, ardat_d, txts_l, txts_t, seq_l, seq_t, seq_f, seq_s, put_d, put_n, truth_str, truth_bl, truth_tup, truth_lst, sfit_str, sfit_bl, sfit_tup, sfit_lst, frzS, eqv_int, eqv_str, eqv_bl, plain_str, plain_int, plain_bl, plain_non, plain_tup, plain_lst, plains_nil, plains_cons, py_str, py_int, py_bl, py_non, py_tup, py_lst, pys_nil, pys_cons, dep_str, dep_int, dep_bl, dep_non, dep_tup, dep_lst, depA_nil, depA_cons, flat_str, flat_int, atI_0, atI_1, atI_2, strL_nil, strL_cons, cut_from1, cut_from2, gLen_s, gLen_l, gLen_t, gLen_f, gB_e, gI_e, gAdd_i, gAdd_s, gAdd_l, gAdd_t, gMul_i, gMul_l, gEq, gNe, gIn_s, gIn_l, gIn_t, gIsN_e, isN_non, isN_str, isN_tup, isN_int, isN_bl, isN_lst, gAll_e, gAny_e, gInt_i, gInt_b, gList_l, gList_t, gTuple_l, gTuple_t, gMin, gMax, gIx_l, gIx_t, gIx_f, gIx_s, gSl_l, gSl_f, gSl_t, gSl_s]; exact h) (by rw [sizeLine_eq]; have := ok.2.2; omega) (fun y hy K1 h K0 => ?_) ?_
        · unfold pairD
          simp [wSeq, wIfS_T, wIfS_F, wIfE_T, wIfE_F, wOrT, wAndT, wNot, wTest, wCall, wCons, wNil, wVar, wC, wChain, wRet, wRetN, wEnd, wOp, wSet, wLst, wTup, wFn, wIt, wNotV, wAndV, wOrA, wSl, wPart, wPart0, wSrc, wSrcPut, wJoin, wSplit, wPartn, wAsg, wgTup, wgCons, wgNil, wgN, wApp, wExt, wDrop, wNever, wFz, wSSet, wLSet, wPwW, wPwP, wPwInc, wMakePW, wMeth, wSetPop, wAugI, wRng1, wRng2, wTrue, wipeD, startD, poOf, and_assoc, gIsi_e, tyS_non, tyS_bl, tyS_int, tyS_str, tyS_tup, tyS_lst, tyS_dct, kitB_1, kitB_2, kitB_3, kitB_4, kitB_5, kitB_6, kitB_7, kitB_8, kitB_9, kitB_10, kitB_11, kitB_12, kitB_13, kitB_14, kitB_15, kitB_16, kitB_17, kitB_18, kitB_19, kitB_20, kitB_21, kitB_22, vw_d, vw_n, vw_b, lst_l, val_d, val_l, arg_d, arg_n, arg_b, dat_d, dat_n, dat_b, out_d, out_n, out_b, vwA_d, vwA_b, vwAs_nil, vwAs_d, vwAs_b, ardat_nil, ardat_d, txts_l, txts_t, seq_l, seq_t, seq_f, seq_s, put_d, put_n, truth_str, truth_bl, truth_tup, truth_lst, sfit_str, sfit_bl, sfit_tup, sfit_lst, frzS, eqv_int, eqv_str, eqv_bl, plain_str, plain_int, plain_bl, plain_non, plain_tup, plain_lst, plains_nil, plains_cons, py_str, py_int, py_bl, py_non, py_tup, py_lst, pys_nil, pys_cons, dep_str, dep_int, dep_bl, dep_non, dep_tup, dep_lst, depA_nil, depA_cons, flat_str, flat_int, atI_0, atI_1, atI_2, strL_nil, strL_cons, cut_from1, cut_from2, gLen_s, gLen_l, gLen_t, gLen_f, gB_e, gI_e, gAdd_i, gAdd_s, gAdd_l, gAdd_t, gMul_i, gMul_l, gEq, gNe, gIn_s, gIn_l, gIn_t, gIsN_e, isN_non, isN_str, isN_tup, isN_int, isN_bl, isN_lst, gAll_e, gAny_e, gInt_i, gInt_b, gList_l, gList_t, gTuple_l, gTuple_t, gMin, gMax, gIx_l, gIx_t, gIx_f, gIx_s, gSl_l, gSl_f, gSl_t, gSl_s]
          exact h
        · have el : D.strL (ps.map fun p => D.str p.1) = some (ps.map (·.1)) := by
            have := D.strL_map (ps.map (·.1))
            rwa [List.map_map] at this
          simp [wSeq, wIfS_T, wIfS_F, wIfE_T, wIfE_F, wOrT, wAndT, wNot, wTest, wCall, wCons, wNil, wVar, wC, wChain, wRet, wRetN, wEnd, wOp, wSet, wLst, wTup, wFn, wIt, wNotV, wAndV, wOrA, wSl, wPart, wPart0, wSrc, wSrcPut, wJoin, wSplit, wPartn, wAsg, wgTup, wgCons, wgNil, wgN, wApp, wExt, wDrop, wNever, wFz, wSSet, wLSet, wPwW, wPwP, wPwInc, wMakePW, wMeth, wSetPop, wAugI, wRng1, wRng2, wTrue, wipeD, startD, poOf, and_assoc, gIsi_e, tyS_non, tyS_bl, tyS_int, tyS_str, tyS_tup, tyS_lst, tyS_dct, kitB_1, kitB_2, kitB_3, kitB_4, kitB_5, kitB_6, kitB_7, kitB_8, kitB_9, kitB_10, kitB_11, kitB_12, kitB_13, kitB_14, kitB_15, kitB_16, kitB_17, kitB_18, kitB_19, kitB_20, kitB_21, kitB_22, vw_d, vw_n, vw_b, lst_l, val_d, val_l, arg_d, arg_n, arg_b, dat_d, dat_n, dat_b, out_d, out_n, out_b, vwA_d, vwA_b, vwAs_nil, vwAs_d, vwAs_b, ardat_nil, ardat_d, txts_l, txts_t, seq_l, seq_t, seq_f, seq_s, put_d, put_n, truth_str, truth_bl, truth_tup, truth_lst, sfit_str, sfit_bl, sfit_tup, sfit_lst, frzS, eqv_int, eqv_str, eqv_bl, plain_str, plain_int, plain_bl, plain_non, plain_tup, plain_lst, plains_nil, plains_cons, py_str, py_int, py_bl, py_non, py_tup, py_lst, pys_nil, pys_cons, dep_str, dep_int, dep_bl, dep_non, dep_tup, dep_lst, depA_nil, depA_cons, flat_str, flat_int, atI_0, atI_1, atI_2, strL_nil, strL_cons, cut_from1, cut_from2, gLen_s, gLen_l, gLen_t, gLen_f, gB_e, gI_e, gAdd_i, gAdd_s, gAdd_l, gAdd_t, gMul_i, gMul_l, gEq, gNe, gIn_s, gIn_l, gIn_t, gIsN_e, isN_non, isN_str, isN_tup, isN_int, isN_bl, isN_lst, gAll_e, gAny_e, gInt_i, gInt_b, gList_l, gList_t, gTuple_l, gTuple_t, gMin, gMax, gIx_l, gIx_t, gIx_f, gIx_s, gSl_l, gSl_f, gSl_t, gSl_s, el, (dd_len _).2.mpr ok.2.1]
          exact ⟨by unfold scanBound; have := ok.2.2; omega, h⟩
      simp [wSeq, wIfS_T, wIfS_F, wIfE_T, wIfE_F, wOrT, wAndT, wNot, wTest, wCall, wCons, wNil, wVar, wC, wChain, wRet, wRetN, wEnd, wOp, wSet, wLst, wTup, wFn, wIt, wNotV, wAndV, wOrA, wSl, wPart, wPart0, wSrc, wSrcPut, wJoin, wSplit, wPartn, wAsg, wgTup, wgCons, wgNil, wgN, wApp, wExt, wDrop, wNever, wFz, wSSet, wLSet, wPwW, wPwP, wPwInc, wMakePW, wMeth, wSetPop, wAugI, wRng1, wRng2, wTrue, wipeD, startD, poOf, and_assoc, gIsi_e, tyS_non, tyS_bl, tyS_int, tyS_str, tyS_tup, tyS_lst, tyS_dct, kitB_1, kitB_2, kitB_3, kitB_4, kitB_5, kitB_6, kitB_7, kitB_8, kitB_9, kitB_10, kitB_11, kitB_12, kitB_13, kitB_14, kitB_15, kitB_16, kitB_17, kitB_18, kitB_19, kitB_20, kitB_21, kitB_22, vw_d, vw_n, vw_b, lst_l, val_d, val_l, arg_d, arg_n, arg_b, dat_d, dat_n, dat_b, out_d, out_n, out_b, vwA_d, vwA_b, vwAs_nil, vwAs_d, vwAs_b, ardat_nil, ardat_d, txts_l, txts_t, seq_l, seq_t, seq_f, seq_s, put_d, put_n, truth_str, truth_bl, truth_tup, truth_lst, sfit_str, sfit_bl, sfit_tup, sfit_lst, frzS, eqv_int, eqv_str, eqv_bl, plain_str, plain_int, plain_bl, plain_non, plain_tup, plain_lst, plains_nil, plains_cons, py_str, py_int, py_bl, py_non, py_tup, py_lst, pys_nil, pys_cons, dep_str, dep_int, dep_bl, dep_non, dep_tup, dep_lst, depA_nil, depA_cons, flat_str, flat_int, atI_0, atI_1, atI_2, strL_nil, strL_cons, cut_from1, cut_from2, gLen_s, gLen_l, gLen_t, gLen_f, gB_e, gI_e, gAdd_i, gAdd_s, gAdd_l, gAdd_t, gMul_i, gMul_l, gEq, gNe, gIn_s, gIn_l, gIn_t, gIsN_e, isN_non, isN_str, isN_tup, isN_int, isN_bl, isN_lst, gAll_e, gAny_e, gInt_i, gInt_b, gList_l, gList_t, gTuple_l, gTuple_t, gMin, gMax, gIx_l, gIx_t, gIx_f, gIx_s, gSl_l, gSl_f, gSl_t, gSl_s]
      simpa [pairsD] using hR
/-! ### the words gone through -/
abbrev wdsD (W : List (List Nat)) : List D := W.map .str
def F_word (C : Addr) : FW := fun ds n R _ => ∃ a W, ∃ i : Nat, ∃ w, ds = [.pw C a (wdsD W)] ∧ n.at_ = a ∧ n.pl = i ∧ W[i]? = some w ∧ W.length ≤ 40 ∧ R { n with pl := (i : Int) + 1 } (.d (.str w))
theorem pu_word (C : Addr) : ∀ ds n R PX, ds.length = 1 → F_word C ds n R PX → w_PlanWords_word C (startD 1 ds) n (poOf R PXF0) := by
  rintro ds n R PX - ⟨a, W, i, w, rfl, ha, hi, hw, h40, hR⟩
  have hlt := (List.getElem?_eq_some_iff.mp hw).1
  unfold w_PlanWords_word
  simp only [wSeq]
  refine wIfS_sym false (fun P h => ?_) (fun z => by cases z) fun _ => ?_
  · simp [wSeq, wIfS_T, wIfS_F, wIfE_T, wIfE_F, wOrT, wAndT, wNot, wTest, wCall, wCons, wNil, wVar, wC, wChain, wRet, wRetN, wEnd, wOp, wSet, wLst, wTup, wFn, wIt, wNotV, wAndV, wOrA, wSl, wPart, wPart0, wSrc, wSrcPut, wJoin, wSplit, wPartn, wAsg, wgTup, wgCons, wgNil, wgN, wApp, wExt, wDrop, wNever, wFz, wSSet, wLSet, wPwW, wPwP, wPwInc, wMakePW, wMeth, wSetPop, wAugI, wRng1, wRng2, wTrue, wipeD, startD, poOf, and_assoc, gIsi_e, tyS_non, tyS_bl, tyS_int, tyS_str, tyS_tup, tyS_lst, tyS_dct, kitB_1, kitB_2, kitB_3, kitB_4, kitB_5, kitB_6, kitB_7, kitB_8, kitB_9, kitB_10, kitB_11, kitB_12, kitB_13, kitB_14, kitB_15, kitB_16, kitB_17, kitB_18, kitB_19, kitB_20, kitB_21, kitB_22, vw_d, vw_n, vw_b, lst_l, val_d, val_l, arg_d, arg_n, arg_b, dat_d, dat_n, dat_b, out_d, out_n, out_b, vwA_d, vwA_b, vwAs_nil, vwAs_d, vwAs_b, ardat_nil, ardat_d, txts_l, txts_t, seq_l, seq_t, seq_f, seq_s, put_d, put_n, truth_str, truth_bl, truth_tup, truth_lst, sfit_str, sfit_bl, sfit_tup, sfit_lst, frzS, eqv_int, eqv_str, eqv_bl, plain_str, plain_int, plain_bl, plain_non, plain_tup, plain_lst, plains_nil, plains_cons, py_str, py_int, py_bl, py_non, py_tup, py_lst, pys_nil, pys_cons, dep_str, dep_int, dep_bl, dep_non, dep_tup, dep_lst, depA_nil, depA_cons, flat_str, flat_int, atI_0, atI_1, atI_2, strL_nil, strL_cons, cut_from1, cut_from2, gLen_s, gLen_l, gLen_t, gLen_f, gB_e, gI_e, gAdd_i, gAdd_s, gAdd_l, gAdd_t, gMul_i, gMul_l, gEq, gNe, gIn_s, gIn_l, gIn_t, gIsN_e, isN_non, isN_str, isN_tup, isN_int, isN_bl, isN_lst, gAll_e, gAny_e, gInt_i, gInt_b, gList_l, gList_t, gTuple_l, gTuple_t, gMin, gMax, gIx_l, gIx_t, gIx_f, gIx_s, gSl_l, gSl_f, gSl_t, gSl_s, ha, hi]
    have e : ((i : Int) == if (40 : Int) < W.length then 40 else (W.length : Int)) = false := by
      rw [beq_eq_false_iff_ne]
      split <;> omega
    rw [e]
    exact h
  simp [wSeq, wIfS_T, wIfS_F, wIfE_T, wIfE_F, wOrT, wAndT, wNot, wTest, wCall, wCons, wNil, wVar, wC, wChain, wRet, wRetN, wEnd, wOp, wSet, wLst, wTup, wFn, wIt, wNotV, wAndV, wOrA, wSl, wPart, wPart0, wSrc, wSrcPut, wJoin, wSplit, wPartn, wAsg, wgTup, wgCons, wgNil, wgN, wApp, wExt, wDrop, wNever, wFz, wSSet, wLSet, wPwW, wPwP, wPwInc, wMakePW, wMeth, wSetPop, wAugI, wRng1, wRng2, wTrue, wipeD, startD, poOf, and_assoc, gIsi_e, tyS_non, tyS_bl, tyS_int, tyS_str, tyS_tup, tyS_lst, tyS_dct, kitB_1, kitB_2, kitB_3, kitB_4, kitB_5, kitB_6, kitB_7, kitB_8, kitB_9, kitB_10, kitB_11, kitB_12, kitB_13, kitB_14, kitB_15, kitB_16, kitB_17, kitB_18, kitB_19, kitB_20, kitB_21, kitB_22, vw_d, vw_n, vw_b, lst_l, val_d, val_l, arg_d, arg_n, arg_b, dat_d, dat_n, dat_b, out_d, out_n, out_b, vwA_d, vwA_b, vwAs_nil, vwAs_d, vwAs_b, ardat_nil, ardat_d, txts_l, txts_t, seq_l, seq_t, seq_f, seq_s, put_d, put_n, truth_str, truth_bl, truth_tup, truth_lst, sfit_str, sfit_bl, sfit_tup, sfit_lst, frzS, eqv_int, eqv_str, eqv_bl, plain_str, plain_int, plain_bl, plain_non, plain_tup, plain_lst, plains_nil, plains_cons, py_str, py_int, py_bl, py_non, py_tup, py_lst, pys_nil, pys_cons, dep_str, dep_int, dep_bl, dep_non, dep_tup, dep_lst, depA_nil, depA_cons, flat_str, flat_int, atI_0, atI_1, atI_2, strL_nil, strL_cons, cut_from1, cut_from2, gLen_s, gLen_l, gLen_t, gLen_f, gB_e, gI_e, gAdd_i, gAdd_s, gAdd_l, gAdd_t, gMul_i, gMul_l, gEq, gNe, gIn_s, gIn_l, gIn_t, gIsN_e, isN_non, isN_str, isN_tup, isN_int, isN_bl, isN_lst, gAll_e, gAny_e, gInt_i, gInt_b, gList_l, gList_t, gTuple_l, gTuple_t, gMin, gMax, gIx_l, gIx_t, gIx_f, gIx_s, gSl_l, gSl_f, gSl_t, gSl_s, ha, hi]
  obtain ⟨z, h1, h2⟩ := atI_of (xs := wdsD W) (i := (i : Int)) (by omega) (by simpa using hlt)
  rw [List.getElem?_map] at h2
  have : (i : Int).toNat = i := by omega
  rw [this, hw] at h2
  cases h2
  exact ⟨_, h1, by simpa [ha] using hR⟩
def F_sure (C : Addr) : FW := fun ds n R _ => ∃ a ws x, ds = [.pw C a ws, x] ∧ x.isN = false ∧ R n (.d x)
theorem pu_sure (C : Addr) : ∀ ds n R PX, ds.length = 2 → F_sure C ds n R PX → w_PlanWords_sure (startD 2 ds) n (poOf R PXF0) := by
  rintro ds n R PX - ⟨a, ws, x, rfl, hx, hR⟩
  unfold w_PlanWords_sure
  simp only [wSeq]
  refine wIfS_sym false (fun P h => ?_) (fun z => by cases z) fun _ => ?_
  · simp [wTest, wOp, wVar, wC, gIsN, startD, val_d, vw_d, hx]
    exact h
  simp [wSeq, wIfS_T, wIfS_F, wIfE_T, wIfE_F, wOrT, wAndT, wNot, wTest, wCall, wCons, wNil, wVar, wC, wChain, wRet, wRetN, wEnd, wOp, wSet, wLst, wTup, wFn, wIt, wNotV, wAndV, wOrA, wSl, wPart, wPart0, wSrc, wSrcPut, wJoin, wSplit, wPartn, wAsg, wgTup, wgCons, wgNil, wgN, wApp, wExt, wDrop, wNever, wFz, wSSet, wLSet, wPwW, wPwP, wPwInc, wMakePW, wMeth, wSetPop, wAugI, wRng1, wRng2, wTrue, wipeD, startD, poOf, and_assoc, gIsi_e, tyS_non, tyS_bl, tyS_int, tyS_str, tyS_tup, tyS_lst, tyS_dct, kitB_1, kitB_2, kitB_3, kitB_4, kitB_5, kitB_6, kitB_7, kitB_8, kitB_9, kitB_10, kitB_11, kitB_12, kitB_13, kitB_14, kitB_15, kitB_16, kitB_17, kitB_18, kitB_19, kitB_20, kitB_21, kitB_22, vw_d, vw_n, vw_b, lst_l, val_d, val_l, arg_d, arg_n, arg_b, dat_d, dat_n, dat_b, out_d, out_n, out_b, vwA_d, vwA_b, vwAs_nil, vwAs_d, vwAs_b, ardat_nil, ardat_d, txts_l, txts_t, seq_l, seq_t, seq_f, seq_s, put_d, put_n, truth_str, truth_bl, truth_tup, truth_lst, sfit_str, sfit_bl, sfit_tup, sfit_lst, frzS, eqv_int, eqv_str, eqv_bl, plain_str, plain_int, plain_bl, plain_non, plain_tup, plain_lst, plains_nil, plains_cons, py_str, py_int, py_bl, py_non, py_tup, py_lst, pys_nil, pys_cons, dep_str, dep_int, dep_bl, dep_non, dep_tup, dep_lst, depA_nil, depA_cons, flat_str, flat_int, atI_0, atI_1, atI_2, strL_nil, strL_cons, cut_from1, cut_from2, gLen_s, gLen_l, gLen_t, gLen_f, gB_e, gI_e, gAdd_i, gAdd_s, gAdd_l, gAdd_t, gMul_i, gMul_l, gEq, gNe, gIn_s, gIn_l, gIn_t, gIsN_e, isN_non, isN_str, isN_tup, isN_int, isN_bl, isN_lst, gAll_e, gAny_e, gInt_i, gInt_b, gList_l, gList_t, gTuple_l, gTuple_t, gMin, gMax, gIx_l, gIx_t, gIx_f, gIx_s, gSl_l, gSl_f, gSl_t, gSl_s]
  exact hR
def F_ended (C : Addr) : FW := fun ds n R _ => ∃ a W, ds = [.pw C a (wdsD W)] ∧ n.at_ = a ∧ n.pl = (W.length : Int) ∧ R n (.d .non)
theorem pu_ended (C : Addr) : ∀ ds n R PX, ds.length = 1 → F_ended C ds n R PX → w_PlanWords_ended C (startD 1 ds) n (poOf R PXF0) := by
  rintro ds n R PX - ⟨a, W, rfl, ha, hi, hR⟩
  unfold w_PlanWords_ended
  refine wIfS_sym false (fun P h => ?_) (fun z => by cases z) fun _ => ?_
  · simp [wSeq, wIfS_T, wIfS_F, wIfE_T, wIfE_F, wOrT, wAndT, wNot, wTest, wCall, wCons, wNil, wVar, wC, wChain, wRet, wRetN, wEnd, wOp, wSet, wLst, wTup, wFn, wIt, wNotV, wAndV, wOrA, wSl, wPart, wPart0, wSrc, wSrcPut, wJoin, wSplit, wPartn, wAsg, wgTup, wgCons, wgNil, wgN, wApp, wExt, wDrop, wNever, wFz, wSSet, wLSet, wPwW, wPwP, wPwInc, wMakePW, wMeth, wSetPop, wAugI, wRng1, wRng2, wTrue, wipeD, startD, poOf, and_assoc, gIsi_e, tyS_non, tyS_bl, tyS_int, tyS_str, tyS_tup, tyS_lst, tyS_dct, kitB_1, kitB_2, kitB_3, kitB_4, kitB_5, kitB_6, kitB_7, kitB_8, kitB_9, kitB_10, kitB_11, kitB_12, kitB_13, kitB_14, kitB_15, kitB_16, kitB_17, kitB_18, kitB_19, kitB_20, kitB_21, kitB_22, vw_d, vw_n, vw_b, lst_l, val_d, val_l, arg_d, arg_n, arg_b, dat_d, dat_n, dat_b, out_d, out_n, out_b, vwA_d, vwA_b, vwAs_nil, vwAs_d, vwAs_b, ardat_nil, ardat_d, txts_l, txts_t, seq_l, seq_t, seq_f, seq_s, put_d, put_n, truth_str, truth_bl, truth_tup, truth_lst, sfit_str, sfit_bl, sfit_tup, sfit_lst, frzS, eqv_int, eqv_str, eqv_bl, plain_str, plain_int, plain_bl, plain_non, plain_tup, plain_lst, plains_nil, plains_cons, py_str, py_int, py_bl, py_non, py_tup, py_lst, pys_nil, pys_cons, dep_str, dep_int, dep_bl, dep_non, dep_tup, dep_lst, depA_nil, depA_cons, flat_str, flat_int, atI_0, atI_1, atI_2, strL_nil, strL_cons, cut_from1, cut_from2, gLen_s, gLen_l, gLen_t, gLen_f, gB_e, gI_e, gAdd_i, gAdd_s, gAdd_l, gAdd_t, gMul_i, gMul_l, gEq, gNe, gIn_s, gIn_l, gIn_t, gIsN_e, isN_non, isN_str, isN_tup, isN_int, isN_bl, isN_lst, gAll_e, gAny_e, gInt_i, gInt_b, gList_l, gList_t, gTuple_l, gTuple_t, gMin, gMax, gIx_l, gIx_t, gIx_f, gIx_s, gSl_l, gSl_f, gSl_t, gSl_s, ha, hi]
    exact h
  simp [wSeq, wIfS_T, wIfS_F, wIfE_T, wIfE_F, wOrT, wAndT, wNot, wTest, wCall, wCons, wNil, wVar, wC, wChain, wRet, wRetN, wEnd, wOp, wSet, wLst, wTup, wFn, wIt, wNotV, wAndV, wOrA, wSl, wPart, wPart0, wSrc, wSrcPut, wJoin, wSplit, wPartn, wAsg, wgTup, wgCons, wgNil, wgN, wApp, wExt, wDrop, wNever, wFz, wSSet, wLSet, wPwW, wPwP, wPwInc, wMakePW, wMeth, wSetPop, wAugI, wRng1, wRng2, wTrue, wipeD, startD, poOf, and_assoc, gIsi_e, tyS_non, tyS_bl, tyS_int, tyS_str, tyS_tup, tyS_lst, tyS_dct, kitB_1, kitB_2, kitB_3, kitB_4, kitB_5, kitB_6, kitB_7, kitB_8, kitB_9, kitB_10, kitB_11, kitB_12, kitB_13, kitB_14, kitB_15, kitB_16, kitB_17, kitB_18, kitB_19, kitB_20, kitB_21, kitB_22, vw_d, vw_n, vw_b, lst_l, val_d, val_l, arg_d, arg_n, arg_b, dat_d, dat_n, dat_b, out_d, out_n, out_b, vwA_d, vwA_b, vwAs_nil, vwAs_d, vwAs_b, ardat_nil, ardat_d, txts_l, txts_t, seq_l, seq_t, seq_f, seq_s, put_d, put_n, truth_str, truth_bl, truth_tup, truth_lst, sfit_str, sfit_bl, sfit_tup, sfit_lst, frzS, eqv_int, eqv_str, eqv_bl, plain_str, plain_int, plain_bl, plain_non, plain_tup, plain_lst, plains_nil, plains_cons, py_str, py_int, py_bl, py_non, py_tup, py_lst, pys_nil, pys_cons, dep_str, dep_int, dep_bl, dep_non, dep_tup, dep_lst, depA_nil, depA_cons, flat_str, flat_int, atI_0, atI_1, atI_2, strL_nil, strL_cons, cut_from1, cut_from2, gLen_s, gLen_l, gLen_t, gLen_f, gB_e, gI_e, gAdd_i, gAdd_s, gAdd_l, gAdd_t, gMul_i, gMul_l, gEq, gNe, gIn_s, gIn_l, gIn_t, gIsN_e, isN_non, isN_str, isN_tup, isN_int, isN_bl, isN_lst, gAll_e, gAny_e, gInt_i, gInt_b, gList_l, gList_t, gTuple_l, gTuple_t, gMin, gMax, gIx_l, gIx_t, gIx_f, gIx_s, gSl_l, gSl_f, gSl_t, gSl_s]
  exact hR
end DL
namespace DL
open PySem PySem.Spec PyProof.Rows L2
/-- the words l stand in W from i on -/
def At (W : List (List Nat)) (i : Nat) (l : List (List Nat)) : Prop := ∃ post, W.drop i = l ++ post
theorem At.head {W : List (List Nat)} {i : Nat} {w : List Nat} {r : List (List Nat)} (h : At W i (w :: r)) : W[i]? = some w ∧ At W (i + 1) r := by
  obtain ⟨post, e⟩ := h
  constructor
  · have := congrArg (·[0]?) e
    simpa using this
  · refine ⟨post, ?_⟩
    have := congrArg (List.drop 1) e
    rw [List.drop_drop] at this
    simpa using this
theorem At.app {W : List (List Nat)} {i : Nat} {l r : List (List Nat)} (h : At W i (l ++ r)) : At W i l ∧ At W (i + l.length) r := by
  obtain ⟨post, e⟩ := h
  rw [List.append_assoc] at e
  refine ⟨⟨_, e⟩, post, ?_⟩
  rw [← List.drop_drop, e, List.drop_left]
def F_plan_in (C : Addr) (k : Nat) : FW := fun ds n R _ => ∃ a W, ∃ i : Nat, ∃ p : Pl, ds = [.pw C a (wdsD W)] ∧ n.at_ = a ∧ n.pl = i ∧ W.length ≤ 40 ∧ At W i p.spell ∧ p.ok ∧ p.deep ≤ k ∧ R { n with pl := ((i + p.spell.length : Nat) : Int) } (.d p.d)
theorem wSet_i {i : Nat} {we : WD} {δ δ' : List Sl} {n n' : Gh} {po : Po} {r : Rs} (h : ∀ P : Gh → Rs → Prop, P n' r → we δ n P po.px) (e : put δ i r = some δ') (g : po.nx δ' n') : wSet i we δ n po := h _ ⟨δ', e, g⟩
theorem mw {C a : Addr} {W : List (List Nat)} {i : Nat} {w : List Nat} {δ : List Sl} {n : Gh} {P : Gh → Rs → Prop} {PX : PXT} {x : WD} (hx : ∀ P' : Gh → Rs → Prop, P' n (.d (.pw C a (wdsD W))) → x δ n P' PX) (ha : n.at_ = a) (hi : n.pl = (i : Int)) (hw : W[i]? = some w) (h40 : W.length ≤ 40)
    (h : P { n with pl := ((i + 1 : Nat) : Int) } (.d (.str w))) : wMeth C (F_word C) 1 x wNil δ n P PX := hx _ ⟨a, _, rfl, [], rfl, rfl, a, W, i, w, rfl, ha, hi, hw, h40, by simpa using h⟩
theorem mp {C a : Addr} {k : Nat} {W : List (List Nat)} {i : Nat} {p : Pl} {δ : List Sl} {n : Gh} {P : Gh → Rs → Prop} {PX : PXT} {x : WD} (hx : ∀ P' : Gh → Rs → Prop, P' n (.d (.pw C a (wdsD W))) → x δ n P' PX) (ha : n.at_ = a) (hi : n.pl = (i : Int)) (h40 : W.length ≤ 40) (hW : At W i p.spell) (hp : p.ok) (hd : p.deep ≤ k)
    (h : P { n with pl := ((i + p.spell.length : Nat) : Int) } (.d p.d)) : wMeth C (F_plan_in C k) 1 x wNil δ n P PX := hx _ ⟨a, _, rfl, [], rfl, rfl, a, W, i, p, rfl, ha, hi, h40, hW, hp, hd, h⟩
theorem isPn_1 : isPn [115, 116, 111, 112] = false := by decide +kernel
theorem isPn_2 : isPn [112, 97, 114, 116] = false := by decide +kernel
theorem isPn_3 : isPn [97, 104, 101, 97, 100] = false := by decide +kernel
theorem isPn_4 : isPn [112, 105, 99, 107] = false := by decide +kernel
theorem isPn_5 : isPn [111, 102, 102, 101, 114] = false := by decide +kernel
theorem isPn_6 : isPn [98, 101, 115, 105, 100, 101] = false := by decide +kernel
theorem isPn_7 : isPn [104, 105, 100, 101] = false := by decide +kernel
theorem isPn_8 : isPn [114, 101, 110, 97, 109, 101] = false := by decide +kernel
theorem pu_plan_in (C : Addr) (k : Nat) : ∀ ds n R PX, ds.length = 1 → F_plan_in C (k + 1) ds n R PX → w_PlanWords_plan_in C (F_word C) F_is_part_name (F_sure C) (F_plan_in C k) F_is_sign F_pairs_in F_names_in (startD 5 ds) n (poOf R PXF0) := by
  rintro ds n R PX - ⟨a, W, i, p, rfl, ha, hi, h40, hW, hp, hd, hR⟩
  unfold w_PlanWords_plan_in
  simp only [wSeq]
  have fin : ∀ (x : Int) (d : D), x = ((i + p.spell.length : Nat) : Int) → d = p.d → R { n with pl := x } (.d d) := fun x d h1 h2 => by rw [h1, h2]; exact hR
  clear hR
  cases p with
  | stop =>
    obtain ⟨hw, hW⟩ := hW.head
    refine wSet_i (fun P h => mw (fun P' h => ⟨_, rfl, h⟩) ha hi hw h40 h) rfl ?_
    simp [wSeq, wIfS_T, wIfS_F, wIfE_T, wIfE_F, wOrT, wAndT, wNot, wTest, wCall, wCons, wNil, wVar, wC, wChain, wRet, wRetN, wEnd, wOp, wSet, wLst, wTup, wFn, wIt, wNotV, wAndV, wOrA, wSl, wPart, wPart0, wSrc, wSrcPut, wJoin, wSplit, wPartn, wAsg, wgTup, wgCons, wgNil, wgN, wApp, wExt, wDrop, wNever, wFz, wSSet, wLSet, wPwW, wPwP, wPwInc, wMakePW, wMeth, wSetPop, wAugI, wRng1, wRng2, wTrue, wipeD, startD, poOf, and_assoc, gIsi_e, tyS_non, tyS_bl, tyS_int, tyS_str, tyS_tup, tyS_lst, tyS_dct, kitB_1, kitB_2, kitB_3, kitB_4, kitB_5, kitB_6, kitB_7, kitB_8, kitB_9, kitB_10, kitB_11, kitB_12, kitB_13, kitB_14, kitB_15, kitB_16, kitB_17, kitB_18, kitB_19, kitB_20, kitB_21, kitB_22, vw_d, vw_n, vw_b, lst_l, val_d, val_l, arg_d, arg_n, arg_b, dat_d, dat_n, dat_b, out_d, out_n, out_b, vwA_d, vwA_b, vwAs_nil, vwAs_d, vwAs_b, ardat_nil, ardat_d, txts_l, txts_t, seq_l, seq_t, seq_f, seq_s, put_d, put_n, truth_str, truth_bl, truth_tup, truth_lst, sfit_str, sfit_bl, sfit_tup, sfit_lst, frzS, eqv_int, eqv_str, eqv_bl, plain_str, plain_int, plain_bl, plain_non, plain_tup, plain_lst, plains_nil, plains_cons, py_str, py_int, py_bl, py_non, py_tup, py_lst, pys_nil, pys_cons, dep_str, dep_int, dep_bl, dep_non, dep_tup, dep_lst, depA_nil, depA_cons, flat_str, flat_int, atI_0, atI_1, atI_2, strL_nil, strL_cons, cut_from1, cut_from2, gLen_s, gLen_l, gLen_t, gLen_f, gB_e, gI_e, gAdd_i, gAdd_s, gAdd_l, gAdd_t, gMul_i, gMul_l, gEq, gNe, gIn_s, gIn_l, gIn_t, gIsN_e, isN_non, isN_str, isN_tup, isN_int, isN_bl, isN_lst, gAll_e, gAny_e, gInt_i, gInt_b, gList_l, gList_t, gTuple_l, gTuple_t, gMin, gMax, gIx_l, gIx_t, gIx_f, gIx_s, gSl_l, gSl_f, gSl_t, gSl_s, F_is_part_name, F_sure, isPn_1, isPn_2, isPn_3, isPn_4, isPn_5, isPn_6, isPn_7, isPn_8, q_stop, q_part, q_ahead, q_pick, q_offer, q_beside, q_hide, q_rename, sizeLine_eq]
    exact fin _ _ (by simp [Pl.spell]) (by simp [Pl.d, q_stop])
  | part x =>
    obtain ⟨hw, hW⟩ := hW.head
    have hl : x.length ≤ 16777216 := by have := (isNm_len (isPn_ne hp).1).2; omega
    have hx : isPn x = true := hp
    refine wSet_i (fun P h => mw (fun P' h => ⟨_, rfl, h⟩) ha hi hw h40 h) rfl ?_
    simp [wSeq, wIfS_T, wIfS_F, wIfE_T, wIfE_F, wOrT, wAndT, wNot, wTest, wCall, wCons, wNil, wVar, wC, wChain, wRet, wRetN, wEnd, wOp, wSet, wLst, wTup, wFn, wIt, wNotV, wAndV, wOrA, wSl, wPart, wPart0, wSrc, wSrcPut, wJoin, wSplit, wPartn, wAsg, wgTup, wgCons, wgNil, wgN, wApp, wExt, wDrop, wNever, wFz, wSSet, wLSet, wPwW, wPwP, wPwInc, wMakePW, wMeth, wSetPop, wAugI, wRng1, wRng2, wTrue, wipeD, startD, poOf, and_assoc, gIsi_e, tyS_non, tyS_bl, tyS_int, tyS_str, tyS_tup, tyS_lst, tyS_dct, kitB_1, kitB_2, kitB_3, kitB_4, kitB_5, kitB_6, kitB_7, kitB_8, kitB_9, kitB_10, kitB_11, kitB_12, kitB_13, kitB_14, kitB_15, kitB_16, kitB_17, kitB_18, kitB_19, kitB_20, kitB_21, kitB_22, vw_d, vw_n, vw_b, lst_l, val_d, val_l, arg_d, arg_n, arg_b, dat_d, dat_n, dat_b, out_d, out_n, out_b, vwA_d, vwA_b, vwAs_nil, vwAs_d, vwAs_b, ardat_nil, ardat_d, txts_l, txts_t, seq_l, seq_t, seq_f, seq_s, put_d, put_n, truth_str, truth_bl, truth_tup, truth_lst, sfit_str, sfit_bl, sfit_tup, sfit_lst, frzS, eqv_int, eqv_str, eqv_bl, plain_str, plain_int, plain_bl, plain_non, plain_tup, plain_lst, plains_nil, plains_cons, py_str, py_int, py_bl, py_non, py_tup, py_lst, pys_nil, pys_cons, dep_str, dep_int, dep_bl, dep_non, dep_tup, dep_lst, depA_nil, depA_cons, flat_str, flat_int, atI_0, atI_1, atI_2, strL_nil, strL_cons, cut_from1, cut_from2, gLen_s, gLen_l, gLen_t, gLen_f, gB_e, gI_e, gAdd_i, gAdd_s, gAdd_l, gAdd_t, gMul_i, gMul_l, gEq, gNe, gIn_s, gIn_l, gIn_t, gIsN_e, isN_non, isN_str, isN_tup, isN_int, isN_bl, isN_lst, gAll_e, gAny_e, gInt_i, gInt_b, gList_l, gList_t, gTuple_l, gTuple_t, gMin, gMax, gIx_l, gIx_t, gIx_f, gIx_s, gSl_l, gSl_f, gSl_t, gSl_s, F_is_part_name, hx, hl, sizeLine_eq]
    exact fin _ _ (by simp [Pl.spell]) (by simp [Pl.d])
  | ahead s p =>
    obtain ⟨hw, hW⟩ := hW.head
    obtain ⟨hw2, hW⟩ := hW.head
    obtain ⟨hs, hp⟩ := hp
    have hl : s.length ≤ 16777216 := by
      unfold isSg at hs
      rw [Bool.or_eq_true] at hs
      rcases hs with h | h
      · have := (isNm_len h).2; omega
      · rw [q_dot] at h
        have := eq_of_beq h
        rw [this]; decide
    refine wSet_i (fun P h => mw (fun P' h => ⟨_, rfl, h⟩) ha hi hw h40 h) rfl ?_
    simp [wSeq, wIfS_T, wIfS_F, wIfE_T, wIfE_F, wOrT, wAndT, wNot, wTest, wCall, wCons, wNil, wVar, wC, wChain, wRet, wRetN, wEnd, wOp, wSet, wLst, wTup, wFn, wIt, wNotV, wAndV, wOrA, wSl, wPart, wPart0, wSrc, wSrcPut, wJoin, wSplit, wPartn, wAsg, wgTup, wgCons, wgNil, wgN, wApp, wExt, wDrop, wNever, wFz, wSSet, wLSet, wPwW, wPwP, wPwInc, wMakePW, wMeth, wSetPop, wAugI, wRng1, wRng2, wTrue, wipeD, startD, poOf, and_assoc, gIsi_e, tyS_non, tyS_bl, tyS_int, tyS_str, tyS_tup, tyS_lst, tyS_dct, kitB_1, kitB_2, kitB_3, kitB_4, kitB_5, kitB_6, kitB_7, kitB_8, kitB_9, kitB_10, kitB_11, kitB_12, kitB_13, kitB_14, kitB_15, kitB_16, kitB_17, kitB_18, kitB_19, kitB_20, kitB_21, kitB_22, vw_d, vw_n, vw_b, lst_l, val_d, val_l, arg_d, arg_n, arg_b, dat_d, dat_n, dat_b, out_d, out_n, out_b, vwA_d, vwA_b, vwAs_nil, vwAs_d, vwAs_b, ardat_nil, ardat_d, txts_l, txts_t, seq_l, seq_t, seq_f, seq_s, put_d, put_n, truth_str, truth_bl, truth_tup, truth_lst, sfit_str, sfit_bl, sfit_tup, sfit_lst, frzS, eqv_int, eqv_str, eqv_bl, plain_str, plain_int, plain_bl, plain_non, plain_tup, plain_lst, plains_nil, plains_cons, py_str, py_int, py_bl, py_non, py_tup, py_lst, pys_nil, pys_cons, dep_str, dep_int, dep_bl, dep_non, dep_tup, dep_lst, depA_nil, depA_cons, flat_str, flat_int, atI_0, atI_1, atI_2, strL_nil, strL_cons, cut_from1, cut_from2, gLen_s, gLen_l, gLen_t, gLen_f, gB_e, gI_e, gAdd_i, gAdd_s, gAdd_l, gAdd_t, gMul_i, gMul_l, gEq, gNe, gIn_s, gIn_l, gIn_t, gIsN_e, isN_non, isN_str, isN_tup, isN_int, isN_bl, isN_lst, gAll_e, gAny_e, gInt_i, gInt_b, gList_l, gList_t, gTuple_l, gTuple_t, gMin, gMax, gIx_l, gIx_t, gIx_f, gIx_s, gSl_l, gSl_f, gSl_t, gSl_s, F_is_part_name, F_sure, isPn_1, isPn_2, isPn_3, isPn_4, isPn_5, isPn_6, isPn_7, isPn_8, q_stop, q_part, q_ahead, q_pick, q_offer, q_beside, q_hide, q_rename, sizeLine_eq]
    refine ⟨a, W, i + 1, s, rfl, ha, by simp, hw2, h40, ?_⟩
    simp [wSeq, wIfS_T, wIfS_F, wIfE_T, wIfE_F, wOrT, wAndT, wNot, wTest, wCall, wCons, wNil, wVar, wC, wChain, wRet, wRetN, wEnd, wOp, wSet, wLst, wTup, wFn, wIt, wNotV, wAndV, wOrA, wSl, wPart, wPart0, wSrc, wSrcPut, wJoin, wSplit, wPartn, wAsg, wgTup, wgCons, wgNil, wgN, wApp, wExt, wDrop, wNever, wFz, wSSet, wLSet, wPwW, wPwP, wPwInc, wMakePW, wMeth, wSetPop, wAugI, wRng1, wRng2, wTrue, wipeD, startD, poOf, and_assoc, gIsi_e, tyS_non, tyS_bl, tyS_int, tyS_str, tyS_tup, tyS_lst, tyS_dct, kitB_1, kitB_2, kitB_3, kitB_4, kitB_5, kitB_6, kitB_7, kitB_8, kitB_9, kitB_10, kitB_11, kitB_12, kitB_13, kitB_14, kitB_15, kitB_16, kitB_17, kitB_18, kitB_19, kitB_20, kitB_21, kitB_22, vw_d, vw_n, vw_b, lst_l, val_d, val_l, arg_d, arg_n, arg_b, dat_d, dat_n, dat_b, out_d, out_n, out_b, vwA_d, vwA_b, vwAs_nil, vwAs_d, vwAs_b, ardat_nil, ardat_d, txts_l, txts_t, seq_l, seq_t, seq_f, seq_s, put_d, put_n, truth_str, truth_bl, truth_tup, truth_lst, sfit_str, sfit_bl, sfit_tup, sfit_lst, frzS, eqv_int, eqv_str, eqv_bl, plain_str, plain_int, plain_bl, plain_non, plain_tup, plain_lst, plains_nil, plains_cons, py_str, py_int, py_bl, py_non, py_tup, py_lst, pys_nil, pys_cons, dep_str, dep_int, dep_bl, dep_non, dep_tup, dep_lst, depA_nil, depA_cons, flat_str, flat_int, atI_0, atI_1, atI_2, strL_nil, strL_cons, cut_from1, cut_from2, gLen_s, gLen_l, gLen_t, gLen_f, gB_e, gI_e, gAdd_i, gAdd_s, gAdd_l, gAdd_t, gMul_i, gMul_l, gEq, gNe, gIn_s, gIn_l, gIn_t, gIsN_e, isN_non, isN_str, isN_tup, isN_int, isN_bl, isN_lst, gAll_e, gAny_e, gInt_i, gInt_b, gList_l, gList_t, gTuple_l, gTuple_t, gMin, gMax, gIx_l, gIx_t, gIx_f, gIx_s, gSl_l, gSl_f, gSl_t, gSl_s, F_is_sign, F_sure, hs, hl, q_ahead, q_rename, q_beside, sizeLine_eq]
    refine ⟨a, W, i + 2, p, rfl, ha, by simp; omega, h40, hW, hp, by unfold Pl.deep at hd; omega, ?_⟩
    simp [wSeq, wIfS_T, wIfS_F, wIfE_T, wIfE_F, wOrT, wAndT, wNot, wTest, wCall, wCons, wNil, wVar, wC, wChain, wRet, wRetN, wEnd, wOp, wSet, wLst, wTup, wFn, wIt, wNotV, wAndV, wOrA, wSl, wPart, wPart0, wSrc, wSrcPut, wJoin, wSplit, wPartn, wAsg, wgTup, wgCons, wgNil, wgN, wApp, wExt, wDrop, wNever, wFz, wSSet, wLSet, wPwW, wPwP, wPwInc, wMakePW, wMeth, wSetPop, wAugI, wRng1, wRng2, wTrue, wipeD, startD, poOf, and_assoc, gIsi_e, tyS_non, tyS_bl, tyS_int, tyS_str, tyS_tup, tyS_lst, tyS_dct, kitB_1, kitB_2, kitB_3, kitB_4, kitB_5, kitB_6, kitB_7, kitB_8, kitB_9, kitB_10, kitB_11, kitB_12, kitB_13, kitB_14, kitB_15, kitB_16, kitB_17, kitB_18, kitB_19, kitB_20, kitB_21, kitB_22, vw_d, vw_n, vw_b, lst_l, val_d, val_l, arg_d, arg_n, arg_b, dat_d, dat_n, dat_b, out_d, out_n, out_b, vwA_d, vwA_b, vwAs_nil, vwAs_d, vwAs_b, ardat_nil, ardat_d, txts_l, txts_t, seq_l, seq_t, seq_f, seq_s, put_d, put_n, truth_str, truth_bl, truth_tup, truth_lst, sfit_str, sfit_bl, sfit_tup, sfit_lst, frzS, eqv_int, eqv_str, eqv_bl, plain_str, plain_int, plain_bl, plain_non, plain_tup, plain_lst, plains_nil, plains_cons, py_str, py_int, py_bl, py_non, py_tup, py_lst, pys_nil, pys_cons, dep_str, dep_int, dep_bl, dep_non, dep_tup, dep_lst, depA_nil, depA_cons, flat_str, flat_int, atI_0, atI_1, atI_2, strL_nil, strL_cons, cut_from1, cut_from2, gLen_s, gLen_l, gLen_t, gLen_f, gB_e, gI_e, gAdd_i, gAdd_s, gAdd_l, gAdd_t, gMul_i, gMul_l, gEq, gNe, gIn_s, gIn_l, gIn_t, gIsN_e, isN_non, isN_str, isN_tup, isN_int, isN_bl, isN_lst, gAll_e, gAny_e, gInt_i, gInt_b, gList_l, gList_t, gTuple_l, gTuple_t, gMin, gMax, gIx_l, gIx_t, gIx_f, gIx_s, gSl_l, gSl_f, gSl_t, gSl_s, q_ahead, q_beside, sizeLine_eq]
    exact fin _ _ (by simp [Pl.spell]; omega) (by simp [Pl.d, q_ahead])
  | two b p r =>
    obtain ⟨hw, hW⟩ := hW.head
    obtain ⟨hW1, hW2⟩ := hW.app
    refine wSet_i (fun P h => mw (fun P' h => ⟨_, rfl, h⟩) ha hi hw h40 h) rfl ?_
    unfold Pl.deep at hd
    cases b <;> (
      simp [wSeq, wIfS_T, wIfS_F, wIfE_T, wIfE_F, wOrT, wAndT, wNot, wTest, wCall, wCons, wNil, wVar, wC, wChain, wRet, wRetN, wEnd, wOp, wSet, wLst, wTup, wFn, wIt, wNotV, wAndV, wOrA, wSl, wPart, wPart0, wSrc, wSrcPut, wJoin, wSplit, wPartn, wAsg, wgTup, wgCons, wgNil, wgN, wApp, wExt, wDrop, wNever, wFz, wSSet, wLSet, wPwW, wPwP, wPwInc, wMakePW, wMeth, wSetPop, wAugI, wRng1, wRng2, wTrue, wipeD, startD, poOf, and_assoc, gIsi_e, tyS_non, tyS_bl, tyS_int, tyS_str, tyS_tup, tyS_lst, tyS_dct, kitB_1, kitB_2, kitB_3, kitB_4, kitB_5, kitB_6, kitB_7, kitB_8, kitB_9, kitB_10, kitB_11, kitB_12, kitB_13, kitB_14, kitB_15, kitB_16, kitB_17, kitB_18, kitB_19, kitB_20, kitB_21, kitB_22, vw_d, vw_n, vw_b, lst_l, val_d, val_l, arg_d, arg_n, arg_b, dat_d, dat_n, dat_b, out_d, out_n, out_b, vwA_d, vwA_b, vwAs_nil, vwAs_d, vwAs_b, ardat_nil, ardat_d, txts_l, txts_t, seq_l, seq_t, seq_f, seq_s, put_d, put_n, truth_str, truth_bl, truth_tup, truth_lst, sfit_str, sfit_bl, sfit_tup, sfit_lst, frzS, eqv_int, eqv_str, eqv_bl, plain_str, plain_int, plain_bl, plain_non, plain_tup, plain_lst, plains_nil, plains_cons, py_str, py_int, py_bl, py_non, py_tup, py_lst, pys_nil, pys_cons, dep_str, dep_int, dep_bl, dep_non, dep_tup, dep_lst, depA_nil, depA_cons, flat_str, flat_int, atI_0, atI_1, atI_2, strL_nil, strL_cons, cut_from1, cut_from2, gLen_s, gLen_l, gLen_t, gLen_f, gB_e, gI_e, gAdd_i, gAdd_s, gAdd_l, gAdd_t, gMul_i, gMul_l, gEq, gNe, gIn_s, gIn_l, gIn_t, gIsN_e, isN_non, isN_str, isN_tup, isN_int, isN_bl, isN_lst, gAll_e, gAny_e, gInt_i, gInt_b, gList_l, gList_t, gTuple_l, gTuple_t, gMin, gMax, gIx_l, gIx_t, gIx_f, gIx_s, gSl_l, gSl_f, gSl_t, gSl_s, F_is_part_name, F_sure, isPn_1, isPn_2, isPn_3, isPn_4, isPn_5, isPn_6, isPn_7, isPn_8, q_stop, q_part, q_ahead, q_pick, q_offer, q_beside, q_hide, q_rename, sizeLine_eq]
      refine ⟨a, W, i + 1, p, rfl, ha, by simp, h40, hW1, hp.1, by omega, ?_⟩
      simp [wSeq, wIfS_T, wIfS_F, wIfE_T, wIfE_F, wOrT, wAndT, wNot, wTest, wCall, wCons, wNil, wVar, wC, wChain, wRet, wRetN, wEnd, wOp, wSet, wLst, wTup, wFn, wIt, wNotV, wAndV, wOrA, wSl, wPart, wPart0, wSrc, wSrcPut, wJoin, wSplit, wPartn, wAsg, wgTup, wgCons, wgNil, wgN, wApp, wExt, wDrop, wNever, wFz, wSSet, wLSet, wPwW, wPwP, wPwInc, wMakePW, wMeth, wSetPop, wAugI, wRng1, wRng2, wTrue, wipeD, startD, poOf, and_assoc, gIsi_e, tyS_non, tyS_bl, tyS_int, tyS_str, tyS_tup, tyS_lst, tyS_dct, kitB_1, kitB_2, kitB_3, kitB_4, kitB_5, kitB_6, kitB_7, kitB_8, kitB_9, kitB_10, kitB_11, kitB_12, kitB_13, kitB_14, kitB_15, kitB_16, kitB_17, kitB_18, kitB_19, kitB_20, kitB_21, kitB_22, vw_d, vw_n, vw_b, lst_l, val_d, val_l, arg_d, arg_n, arg_b, dat_d, dat_n, dat_b, out_d, out_n, out_b, vwA_d, vwA_b, vwAs_nil, vwAs_d, vwAs_b, ardat_nil, ardat_d, txts_l, txts_t, seq_l, seq_t, seq_f, seq_s, put_d, put_n, truth_str, truth_bl, truth_tup, truth_lst, sfit_str, sfit_bl, sfit_tup, sfit_lst, frzS, eqv_int, eqv_str, eqv_bl, plain_str, plain_int, plain_bl, plain_non, plain_tup, plain_lst, plains_nil, plains_cons, py_str, py_int, py_bl, py_non, py_tup, py_lst, pys_nil, pys_cons, dep_str, dep_int, dep_bl, dep_non, dep_tup, dep_lst, depA_nil, depA_cons, flat_str, flat_int, atI_0, atI_1, atI_2, strL_nil, strL_cons, cut_from1, cut_from2, gLen_s, gLen_l, gLen_t, gLen_f, gB_e, gI_e, gAdd_i, gAdd_s, gAdd_l, gAdd_t, gMul_i, gMul_l, gEq, gNe, gIn_s, gIn_l, gIn_t, gIsN_e, isN_non, isN_str, isN_tup, isN_int, isN_bl, isN_lst, gAll_e, gAny_e, gInt_i, gInt_b, gList_l, gList_t, gTuple_l, gTuple_t, gMin, gMax, gIx_l, gIx_t, gIx_f, gIx_s, gSl_l, gSl_f, gSl_t, gSl_s, sizeLine_eq]
      refine ⟨a, W, i + 1 + p.spell.length, r, rfl, ha, by simp, h40, hW2, hp.2, by omega, ?_⟩
      simp [wSeq, wIfS_T, wIfS_F, wIfE_T, wIfE_F, wOrT, wAndT, wNot, wTest, wCall, wCons, wNil, wVar, wC, wChain, wRet, wRetN, wEnd, wOp, wSet, wLst, wTup, wFn, wIt, wNotV, wAndV, wOrA, wSl, wPart, wPart0, wSrc, wSrcPut, wJoin, wSplit, wPartn, wAsg, wgTup, wgCons, wgNil, wgN, wApp, wExt, wDrop, wNever, wFz, wSSet, wLSet, wPwW, wPwP, wPwInc, wMakePW, wMeth, wSetPop, wAugI, wRng1, wRng2, wTrue, wipeD, startD, poOf, and_assoc, gIsi_e, tyS_non, tyS_bl, tyS_int, tyS_str, tyS_tup, tyS_lst, tyS_dct, kitB_1, kitB_2, kitB_3, kitB_4, kitB_5, kitB_6, kitB_7, kitB_8, kitB_9, kitB_10, kitB_11, kitB_12, kitB_13, kitB_14, kitB_15, kitB_16, kitB_17, kitB_18, kitB_19, kitB_20, kitB_21, kitB_22, vw_d, vw_n, vw_b, lst_l, val_d, val_l, arg_d, arg_n, arg_b, dat_d, dat_n, dat_b, out_d, out_n, out_b, vwA_d, vwA_b, vwAs_nil, vwAs_d, vwAs_b, ardat_nil, ardat_d, txts_l, txts_t, seq_l, seq_t, seq_f, seq_s, put_d, put_n, truth_str, truth_bl, truth_tup, truth_lst, sfit_str, sfit_bl, sfit_tup, sfit_lst, frzS, eqv_int, eqv_str, eqv_bl, plain_str, plain_int, plain_bl, plain_non, plain_tup, plain_lst, plains_nil, plains_cons, py_str, py_int, py_bl, py_non, py_tup, py_lst, pys_nil, pys_cons, dep_str, dep_int, dep_bl, dep_non, dep_tup, dep_lst, depA_nil, depA_cons, flat_str, flat_int, atI_0, atI_1, atI_2, strL_nil, strL_cons, cut_from1, cut_from2, gLen_s, gLen_l, gLen_t, gLen_f, gB_e, gI_e, gAdd_i, gAdd_s, gAdd_l, gAdd_t, gMul_i, gMul_l, gEq, gNe, gIn_s, gIn_l, gIn_t, gIsN_e, isN_non, isN_str, isN_tup, isN_int, isN_bl, isN_lst, gAll_e, gAny_e, gInt_i, gInt_b, gList_l, gList_t, gTuple_l, gTuple_t, gMin, gMax, gIx_l, gIx_t, gIx_f, gIx_s, gSl_l, gSl_f, gSl_t, gSl_s, sizeLine_eq]
      exact fin _ _ (by simp [Pl.spell]; omega) (by simp [Pl.d, q_pick, q_offer]))
  | beside ys p r =>
    obtain ⟨hw, hW⟩ := hW.head
    obtain ⟨hw2, hW⟩ := hW.head
    obtain ⟨hW1, hW2⟩ := hW.app
    obtain ⟨hy, hp1, hp2⟩ := hp
    have hl : (namesT ys).length ≤ 16777216 := by have := okN_len hy; omega
    unfold Pl.deep at hd
    refine wSet_i (fun P h => mw (fun P' h => ⟨_, rfl, h⟩) ha hi hw h40 h) rfl ?_
    simp [wSeq, wIfS_T, wIfS_F, wIfE_T, wIfE_F, wOrT, wAndT, wNot, wTest, wCall, wCons, wNil, wVar, wC, wChain, wRet, wRetN, wEnd, wOp, wSet, wLst, wTup, wFn, wIt, wNotV, wAndV, wOrA, wSl, wPart, wPart0, wSrc, wSrcPut, wJoin, wSplit, wPartn, wAsg, wgTup, wgCons, wgNil, wgN, wApp, wExt, wDrop, wNever, wFz, wSSet, wLSet, wPwW, wPwP, wPwInc, wMakePW, wMeth, wSetPop, wAugI, wRng1, wRng2, wTrue, wipeD, startD, poOf, and_assoc, gIsi_e, tyS_non, tyS_bl, tyS_int, tyS_str, tyS_tup, tyS_lst, tyS_dct, kitB_1, kitB_2, kitB_3, kitB_4, kitB_5, kitB_6, kitB_7, kitB_8, kitB_9, kitB_10, kitB_11, kitB_12, kitB_13, kitB_14, kitB_15, kitB_16, kitB_17, kitB_18, kitB_19, kitB_20, kitB_21, kitB_22, vw_d, vw_n, vw_b, lst_l, val_d, val_l, arg_d, arg_n, arg_b, dat_d, dat_n, dat_b, out_d, out_n, out_b, vwA_d, vwA_b, vwAs_nil, vwAs_d, vwAs_b, ardat_nil, ardat_d, txts_l, txts_t, seq_l, seq_t, seq_f, seq_s, put_d, put_n, truth_str, truth_bl, truth_tup, truth_lst, sfit_str, sfit_bl, sfit_tup, sfit_lst, frzS, eqv_int, eqv_str, eqv_bl, plain_str, plain_int, plain_bl, plain_non, plain_tup, plain_lst, plains_nil, plains_cons, py_str, py_int, py_bl, py_non, py_tup, py_lst, pys_nil, pys_cons, dep_str, dep_int, dep_bl, dep_non, dep_tup, dep_lst, depA_nil, depA_cons, flat_str, flat_int, atI_0, atI_1, atI_2, strL_nil, strL_cons, cut_from1, cut_from2, gLen_s, gLen_l, gLen_t, gLen_f, gB_e, gI_e, gAdd_i, gAdd_s, gAdd_l, gAdd_t, gMul_i, gMul_l, gEq, gNe, gIn_s, gIn_l, gIn_t, gIsN_e, isN_non, isN_str, isN_tup, isN_int, isN_bl, isN_lst, gAll_e, gAny_e, gInt_i, gInt_b, gList_l, gList_t, gTuple_l, gTuple_t, gMin, gMax, gIx_l, gIx_t, gIx_f, gIx_s, gSl_l, gSl_f, gSl_t, gSl_s, F_is_part_name, F_sure, isPn_1, isPn_2, isPn_3, isPn_4, isPn_5, isPn_6, isPn_7, isPn_8, q_stop, q_part, q_ahead, q_pick, q_offer, q_beside, q_hide, q_rename, sizeLine_eq]
    refine ⟨a, W, i + 1, _, rfl, ha, by simp, hw2, h40, ?_⟩
    simp [wSeq, wIfS_T, wIfS_F, wIfE_T, wIfE_F, wOrT, wAndT, wNot, wTest, wCall, wCons, wNil, wVar, wC, wChain, wRet, wRetN, wEnd, wOp, wSet, wLst, wTup, wFn, wIt, wNotV, wAndV, wOrA, wSl, wPart, wPart0, wSrc, wSrcPut, wJoin, wSplit, wPartn, wAsg, wgTup, wgCons, wgNil, wgN, wApp, wExt, wDrop, wNever, wFz, wSSet, wLSet, wPwW, wPwP, wPwInc, wMakePW, wMeth, wSetPop, wAugI, wRng1, wRng2, wTrue, wipeD, startD, poOf, and_assoc, gIsi_e, tyS_non, tyS_bl, tyS_int, tyS_str, tyS_tup, tyS_lst, tyS_dct, kitB_1, kitB_2, kitB_3, kitB_4, kitB_5, kitB_6, kitB_7, kitB_8, kitB_9, kitB_10, kitB_11, kitB_12, kitB_13, kitB_14, kitB_15, kitB_16, kitB_17, kitB_18, kitB_19, kitB_20, kitB_21, kitB_22, vw_d, vw_n, vw_b, lst_l, val_d, val_l, arg_d, arg_n, arg_b, dat_d, dat_n, dat_b, out_d, out_n, out_b, vwA_d, vwA_b, vwAs_nil, vwAs_d, vwAs_b, ardat_nil, ardat_d, txts_l, txts_t, seq_l, seq_t, seq_f, seq_s, put_d, put_n, truth_str, truth_bl, truth_tup, truth_lst, sfit_str, sfit_bl, sfit_tup, sfit_lst, frzS, eqv_int, eqv_str, eqv_bl, plain_str, plain_int, plain_bl, plain_non, plain_tup, plain_lst, plains_nil, plains_cons, py_str, py_int, py_bl, py_non, py_tup, py_lst, pys_nil, pys_cons, dep_str, dep_int, dep_bl, dep_non, dep_tup, dep_lst, depA_nil, depA_cons, flat_str, flat_int, atI_0, atI_1, atI_2, strL_nil, strL_cons, cut_from1, cut_from2, gLen_s, gLen_l, gLen_t, gLen_f, gB_e, gI_e, gAdd_i, gAdd_s, gAdd_l, gAdd_t, gMul_i, gMul_l, gEq, gNe, gIn_s, gIn_l, gIn_t, gIsN_e, isN_non, isN_str, isN_tup, isN_int, isN_bl, isN_lst, gAll_e, gAny_e, gInt_i, gInt_b, gList_l, gList_t, gTuple_l, gTuple_t, gMin, gMax, gIx_l, gIx_t, gIx_f, gIx_s, gSl_l, gSl_f, gSl_t, gSl_s, q_ahead, q_rename, q_beside, sizeLine_eq]
    refine ⟨ys, rfl, hy, ?_⟩
    simp [wSeq, wIfS_T, wIfS_F, wIfE_T, wIfE_F, wOrT, wAndT, wNot, wTest, wCall, wCons, wNil, wVar, wC, wChain, wRet, wRetN, wEnd, wOp, wSet, wLst, wTup, wFn, wIt, wNotV, wAndV, wOrA, wSl, wPart, wPart0, wSrc, wSrcPut, wJoin, wSplit, wPartn, wAsg, wgTup, wgCons, wgNil, wgN, wApp, wExt, wDrop, wNever, wFz, wSSet, wLSet, wPwW, wPwP, wPwInc, wMakePW, wMeth, wSetPop, wAugI, wRng1, wRng2, wTrue, wipeD, startD, poOf, and_assoc, gIsi_e, tyS_non, tyS_bl, tyS_int, tyS_str, tyS_tup, tyS_lst, tyS_dct, kitB_1, kitB_2, kitB_3, kitB_4, kitB_5, kitB_6, kitB_7, kitB_8, kitB_9, kitB_10, kitB_11, kitB_12, kitB_13, kitB_14, kitB_15, kitB_16, kitB_17, kitB_18, kitB_19, kitB_20, kitB_21, kitB_22, vw_d, vw_n, vw_b, lst_l, val_d, val_l, arg_d, arg_n, arg_b, dat_d, dat_n, dat_b, out_d, out_n, out_b, vwA_d, vwA_b, vwAs_nil, vwAs_d, vwAs_b, ardat_nil, ardat_d, txts_l, txts_t, seq_l, seq_t, seq_f, seq_s, put_d, put_n, truth_str, truth_bl, truth_tup, truth_lst, sfit_str, sfit_bl, sfit_tup, sfit_lst, frzS, eqv_int, eqv_str, eqv_bl, plain_str, plain_int, plain_bl, plain_non, plain_tup, plain_lst, plains_nil, plains_cons, py_str, py_int, py_bl, py_non, py_tup, py_lst, pys_nil, pys_cons, dep_str, dep_int, dep_bl, dep_non, dep_tup, dep_lst, depA_nil, depA_cons, flat_str, flat_int, atI_0, atI_1, atI_2, strL_nil, strL_cons, cut_from1, cut_from2, gLen_s, gLen_l, gLen_t, gLen_f, gB_e, gI_e, gAdd_i, gAdd_s, gAdd_l, gAdd_t, gMul_i, gMul_l, gEq, gNe, gIn_s, gIn_l, gIn_t, gIsN_e, isN_non, isN_str, isN_tup, isN_int, isN_bl, isN_lst, gAll_e, gAny_e, gInt_i, gInt_b, gList_l, gList_t, gTuple_l, gTuple_t, gMin, gMax, gIx_l, gIx_t, gIx_f, gIx_s, gSl_l, gSl_f, gSl_t, gSl_s, F_sure, namesD, q_ahead, q_rename, q_beside, sizeLine_eq]
    refine ⟨a, W, i + 2, p, rfl, ha, by simp; omega, h40, hW1, hp1, by omega, ?_⟩
    simp [wSeq, wIfS_T, wIfS_F, wIfE_T, wIfE_F, wOrT, wAndT, wNot, wTest, wCall, wCons, wNil, wVar, wC, wChain, wRet, wRetN, wEnd, wOp, wSet, wLst, wTup, wFn, wIt, wNotV, wAndV, wOrA, wSl, wPart, wPart0, wSrc, wSrcPut, wJoin, wSplit, wPartn, wAsg, wgTup, wgCons, wgNil, wgN, wApp, wExt, wDrop, wNever, wFz, wSSet, wLSet, wPwW, wPwP, wPwInc, wMakePW, wMeth, wSetPop, wAugI, wRng1, wRng2, wTrue, wipeD, startD, poOf, and_assoc, gIsi_e, tyS_non, tyS_bl, tyS_int, tyS_str, tyS_tup, tyS_lst, tyS_dct, kitB_1, kitB_2, kitB_3, kitB_4, kitB_5, kitB_6, kitB_7, kitB_8, kitB_9, kitB_10, kitB_11, kitB_12, kitB_13, kitB_14, kitB_15, kitB_16, kitB_17, kitB_18, kitB_19, kitB_20, kitB_21, kitB_22, vw_d, vw_n, vw_b, lst_l, val_d, val_l, arg_d, arg_n, arg_b, dat_d, dat_n, dat_b, out_d, out_n, out_b, vwA_d, vwA_b, vwAs_nil, vwAs_d, vwAs_b, ardat_nil, ardat_d, txts_l, txts_t, seq_l, seq_t, seq_f, seq_s, put_d, put_n, truth_str, truth_bl, truth_tup, truth_lst, sfit_str, sfit_bl, sfit_tup, sfit_lst, frzS, eqv_int, eqv_str, eqv_bl, plain_str, plain_int, plain_bl, plain_non, plain_tup, plain_lst, plains_nil, plains_cons, py_str, py_int, py_bl, py_non, py_tup, py_lst, pys_nil, pys_cons, dep_str, dep_int, dep_bl, dep_non, dep_tup, dep_lst, depA_nil, depA_cons, flat_str, flat_int, atI_0, atI_1, atI_2, strL_nil, strL_cons, cut_from1, cut_from2, gLen_s, gLen_l, gLen_t, gLen_f, gB_e, gI_e, gAdd_i, gAdd_s, gAdd_l, gAdd_t, gMul_i, gMul_l, gEq, gNe, gIn_s, gIn_l, gIn_t, gIsN_e, isN_non, isN_str, isN_tup, isN_int, isN_bl, isN_lst, gAll_e, gAny_e, gInt_i, gInt_b, gList_l, gList_t, gTuple_l, gTuple_t, gMin, gMax, gIx_l, gIx_t, gIx_f, gIx_s, gSl_l, gSl_f, gSl_t, gSl_s, q_ahead, q_beside, sizeLine_eq]
    refine ⟨a, W, i + 2 + p.spell.length, r, rfl, ha, by simp, h40, hW2, hp2, by omega, ?_⟩
    simp [wSeq, wIfS_T, wIfS_F, wIfE_T, wIfE_F, wOrT, wAndT, wNot, wTest, wCall, wCons, wNil, wVar, wC, wChain, wRet, wRetN, wEnd, wOp, wSet, wLst, wTup, wFn, wIt, wNotV, wAndV, wOrA, wSl, wPart, wPart0, wSrc, wSrcPut, wJoin, wSplit, wPartn, wAsg, wgTup, wgCons, wgNil, wgN, wApp, wExt, wDrop, wNever, wFz, wSSet, wLSet, wPwW, wPwP, wPwInc, wMakePW, wMeth, wSetPop, wAugI, wRng1, wRng2, wTrue, wipeD, startD, poOf, and_assoc, gIsi_e, tyS_non, tyS_bl, tyS_int, tyS_str, tyS_tup, tyS_lst, tyS_dct, kitB_1, kitB_2, kitB_3, kitB_4, kitB_5, kitB_6, kitB_7, kitB_8, kitB_9, kitB_10, kitB_11, kitB_12, kitB_13, kitB_14, kitB_15, kitB_16, kitB_17, kitB_18, kitB_19, kitB_20, kitB_21, kitB_22, vw_d, vw_n, vw_b, lst_l, val_d, val_l, arg_d, arg_n, arg_b, dat_d, dat_n, dat_b, out_d, out_n, out_b, vwA_d, vwA_b, vwAs_nil, vwAs_d, vwAs_b, ardat_nil, ardat_d, txts_l, txts_t, seq_l, seq_t, seq_f, seq_s, put_d, put_n, truth_str, truth_bl, truth_tup, truth_lst, sfit_str, sfit_bl, sfit_tup, sfit_lst, frzS, eqv_int, eqv_str, eqv_bl, plain_str, plain_int, plain_bl, plain_non, plain_tup, plain_lst, plains_nil, plains_cons, py_str, py_int, py_bl, py_non, py_tup, py_lst, pys_nil, pys_cons, dep_str, dep_int, dep_bl, dep_non, dep_tup, dep_lst, depA_nil, depA_cons, flat_str, flat_int, atI_0, atI_1, atI_2, strL_nil, strL_cons, cut_from1, cut_from2, gLen_s, gLen_l, gLen_t, gLen_f, gB_e, gI_e, gAdd_i, gAdd_s, gAdd_l, gAdd_t, gMul_i, gMul_l, gEq, gNe, gIn_s, gIn_l, gIn_t, gIsN_e, isN_non, isN_str, isN_tup, isN_int, isN_bl, isN_lst, gAll_e, gAny_e, gInt_i, gInt_b, gList_l, gList_t, gTuple_l, gTuple_t, gMin, gMax, gIx_l, gIx_t, gIx_f, gIx_s, gSl_l, gSl_f, gSl_t, gSl_s, sizeLine_eq]
    exact fin _ _ (by simp [Pl.spell]; omega) (by simp [Pl.d, namesD, q_beside])
  | hide ys p =>
    obtain ⟨hw, hW⟩ := hW.head
    obtain ⟨hw2, hW⟩ := hW.head
    obtain ⟨hy, hp1⟩ := hp
    have hl : (namesT ys).length ≤ 16777216 := by have := okN_len hy; omega
    unfold Pl.deep at hd
    refine wSet_i (fun P h => mw (fun P' h => ⟨_, rfl, h⟩) ha hi hw h40 h) rfl ?_
    simp [wSeq, wIfS_T, wIfS_F, wIfE_T, wIfE_F, wOrT, wAndT, wNot, wTest, wCall, wCons, wNil, wVar, wC, wChain, wRet, wRetN, wEnd, wOp, wSet, wLst, wTup, wFn, wIt, wNotV, wAndV, wOrA, wSl, wPart, wPart0, wSrc, wSrcPut, wJoin, wSplit, wPartn, wAsg, wgTup, wgCons, wgNil, wgN, wApp, wExt, wDrop, wNever, wFz, wSSet, wLSet, wPwW, wPwP, wPwInc, wMakePW, wMeth, wSetPop, wAugI, wRng1, wRng2, wTrue, wipeD, startD, poOf, and_assoc, gIsi_e, tyS_non, tyS_bl, tyS_int, tyS_str, tyS_tup, tyS_lst, tyS_dct, kitB_1, kitB_2, kitB_3, kitB_4, kitB_5, kitB_6, kitB_7, kitB_8, kitB_9, kitB_10, kitB_11, kitB_12, kitB_13, kitB_14, kitB_15, kitB_16, kitB_17, kitB_18, kitB_19, kitB_20, kitB_21, kitB_22, vw_d, vw_n, vw_b, lst_l, val_d, val_l, arg_d, arg_n, arg_b, dat_d, dat_n, dat_b, out_d, out_n, out_b, vwA_d, vwA_b, vwAs_nil, vwAs_d, vwAs_b, ardat_nil, ardat_d, txts_l, txts_t, seq_l, seq_t, seq_f, seq_s, put_d, put_n, truth_str, truth_bl, truth_tup, truth_lst, sfit_str, sfit_bl, sfit_tup, sfit_lst, frzS, eqv_int, eqv_str, eqv_bl, plain_str, plain_int, plain_bl, plain_non, plain_tup, plain_lst, plains_nil, plains_cons, py_str, py_int, py_bl, py_non, py_tup, py_lst, pys_nil, pys_cons, dep_str, dep_int, dep_bl, dep_non, dep_tup, dep_lst, depA_nil, depA_cons, flat_str, flat_int, atI_0, atI_1, atI_2, strL_nil, strL_cons, cut_from1, cut_from2, gLen_s, gLen_l, gLen_t, gLen_f, gB_e, gI_e, gAdd_i, gAdd_s, gAdd_l, gAdd_t, gMul_i, gMul_l, gEq, gNe, gIn_s, gIn_l, gIn_t, gIsN_e, isN_non, isN_str, isN_tup, isN_int, isN_bl, isN_lst, gAll_e, gAny_e, gInt_i, gInt_b, gList_l, gList_t, gTuple_l, gTuple_t, gMin, gMax, gIx_l, gIx_t, gIx_f, gIx_s, gSl_l, gSl_f, gSl_t, gSl_s, F_is_part_name, F_sure, isPn_1, isPn_2, isPn_3, isPn_4, isPn_5, isPn_6, isPn_7, isPn_8, q_stop, q_part, q_ahead, q_pick, q_offer, q_beside, q_hide, q_rename, sizeLine_eq]
    refine ⟨a, W, i + 1, _, rfl, ha, by simp, hw2, h40, ?_⟩
    simp [wSeq, wIfS_T, wIfS_F, wIfE_T, wIfE_F, wOrT, wAndT, wNot, wTest, wCall, wCons, wNil, wVar, wC, wChain, wRet, wRetN, wEnd, wOp, wSet, wLst, wTup, wFn, wIt, wNotV, wAndV, wOrA, wSl, wPart, wPart0, wSrc, wSrcPut, wJoin, wSplit, wPartn, wAsg, wgTup, wgCons, wgNil, wgN, wApp, wExt, wDrop, wNever, wFz, wSSet, wLSet, wPwW, wPwP, wPwInc, wMakePW, wMeth, wSetPop, wAugI, wRng1, wRng2, wTrue, wipeD, startD, poOf, and_assoc, gIsi_e, tyS_non, tyS_bl, tyS_int, tyS_str, tyS_tup, tyS_lst, tyS_dct, kitB_1, kitB_2, kitB_3, kitB_4, kitB_5, kitB_6, kitB_7, kitB_8, kitB_9, kitB_10, kitB_11, kitB_12, kitB_13, kitB_14, kitB_15, kitB_16, kitB_17, kitB_18, kitB_19, kitB_20, kitB_21, kitB_22, vw_d, vw_n, vw_b, lst_l, val_d, val_l, arg_d, arg_n, arg_b, dat_d, dat_n, dat_b, out_d, out_n, out_b, vwA_d, vwA_b, vwAs_nil, vwAs_d, vwAs_b, ardat_nil, ardat_d, txts_l, txts_t, seq_l, seq_t, seq_f, seq_s, put_d, put_n, truth_str, truth_bl, truth_tup, truth_lst, sfit_str, sfit_bl, sfit_tup, sfit_lst, frzS, eqv_int, eqv_str, eqv_bl, plain_str, plain_int, plain_bl, plain_non, plain_tup, plain_lst, plains_nil, plains_cons, py_str, py_int, py_bl, py_non, py_tup, py_lst, pys_nil, pys_cons, dep_str, dep_int, dep_bl, dep_non, dep_tup, dep_lst, depA_nil, depA_cons, flat_str, flat_int, atI_0, atI_1, atI_2, strL_nil, strL_cons, cut_from1, cut_from2, gLen_s, gLen_l, gLen_t, gLen_f, gB_e, gI_e, gAdd_i, gAdd_s, gAdd_l, gAdd_t, gMul_i, gMul_l, gEq, gNe, gIn_s, gIn_l, gIn_t, gIsN_e, isN_non, isN_str, isN_tup, isN_int, isN_bl, isN_lst, gAll_e, gAny_e, gInt_i, gInt_b, gList_l, gList_t, gTuple_l, gTuple_t, gMin, gMax, gIx_l, gIx_t, gIx_f, gIx_s, gSl_l, gSl_f, gSl_t, gSl_s, q_ahead, q_rename, q_hide, q_beside, sizeLine_eq]
    refine ⟨ys, rfl, hy, ?_⟩
    simp [wSeq, wIfS_T, wIfS_F, wIfE_T, wIfE_F, wOrT, wAndT, wNot, wTest, wCall, wCons, wNil, wVar, wC, wChain, wRet, wRetN, wEnd, wOp, wSet, wLst, wTup, wFn, wIt, wNotV, wAndV, wOrA, wSl, wPart, wPart0, wSrc, wSrcPut, wJoin, wSplit, wPartn, wAsg, wgTup, wgCons, wgNil, wgN, wApp, wExt, wDrop, wNever, wFz, wSSet, wLSet, wPwW, wPwP, wPwInc, wMakePW, wMeth, wSetPop, wAugI, wRng1, wRng2, wTrue, wipeD, startD, poOf, and_assoc, gIsi_e, tyS_non, tyS_bl, tyS_int, tyS_str, tyS_tup, tyS_lst, tyS_dct, kitB_1, kitB_2, kitB_3, kitB_4, kitB_5, kitB_6, kitB_7, kitB_8, kitB_9, kitB_10, kitB_11, kitB_12, kitB_13, kitB_14, kitB_15, kitB_16, kitB_17, kitB_18, kitB_19, kitB_20, kitB_21, kitB_22, vw_d, vw_n, vw_b, lst_l, val_d, val_l, arg_d, arg_n, arg_b, dat_d, dat_n, dat_b, out_d, out_n, out_b, vwA_d, vwA_b, vwAs_nil, vwAs_d, vwAs_b, ardat_nil, ardat_d, txts_l, txts_t, seq_l, seq_t, seq_f, seq_s, put_d, put_n, truth_str, truth_bl, truth_tup, truth_lst, sfit_str, sfit_bl, sfit_tup, sfit_lst, frzS, eqv_int, eqv_str, eqv_bl, plain_str, plain_int, plain_bl, plain_non, plain_tup, plain_lst, plains_nil, plains_cons, py_str, py_int, py_bl, py_non, py_tup, py_lst, pys_nil, pys_cons, dep_str, dep_int, dep_bl, dep_non, dep_tup, dep_lst, depA_nil, depA_cons, flat_str, flat_int, atI_0, atI_1, atI_2, strL_nil, strL_cons, cut_from1, cut_from2, gLen_s, gLen_l, gLen_t, gLen_f, gB_e, gI_e, gAdd_i, gAdd_s, gAdd_l, gAdd_t, gMul_i, gMul_l, gEq, gNe, gIn_s, gIn_l, gIn_t, gIsN_e, isN_non, isN_str, isN_tup, isN_int, isN_bl, isN_lst, gAll_e, gAny_e, gInt_i, gInt_b, gList_l, gList_t, gTuple_l, gTuple_t, gMin, gMax, gIx_l, gIx_t, gIx_f, gIx_s, gSl_l, gSl_f, gSl_t, gSl_s, F_sure, namesD, q_ahead, q_rename, q_hide, q_beside, sizeLine_eq]
    refine ⟨a, W, i + 2, p, rfl, ha, by simp; omega, h40, hW, hp1, by omega, ?_⟩
    simp [wSeq, wIfS_T, wIfS_F, wIfE_T, wIfE_F, wOrT, wAndT, wNot, wTest, wCall, wCons, wNil, wVar, wC, wChain, wRet, wRetN, wEnd, wOp, wSet, wLst, wTup, wFn, wIt, wNotV, wAndV, wOrA, wSl, wPart, wPart0, wSrc, wSrcPut, wJoin, wSplit, wPartn, wAsg, wgTup, wgCons, wgNil, wgN, wApp, wExt, wDrop, wNever, wFz, wSSet, wLSet, wPwW, wPwP, wPwInc, wMakePW, wMeth, wSetPop, wAugI, wRng1, wRng2, wTrue, wipeD, startD, poOf, and_assoc, gIsi_e, tyS_non, tyS_bl, tyS_int, tyS_str, tyS_tup, tyS_lst, tyS_dct, kitB_1, kitB_2, kitB_3, kitB_4, kitB_5, kitB_6, kitB_7, kitB_8, kitB_9, kitB_10, kitB_11, kitB_12, kitB_13, kitB_14, kitB_15, kitB_16, kitB_17, kitB_18, kitB_19, kitB_20, kitB_21, kitB_22, vw_d, vw_n, vw_b, lst_l, val_d, val_l, arg_d, arg_n, arg_b, dat_d, dat_n, dat_b, out_d, out_n, out_b, vwA_d, vwA_b, vwAs_nil, vwAs_d, vwAs_b, ardat_nil, ardat_d, txts_l, txts_t, seq_l, seq_t, seq_f, seq_s, put_d, put_n, truth_str, truth_bl, truth_tup, truth_lst, sfit_str, sfit_bl, sfit_tup, sfit_lst, frzS, eqv_int, eqv_str, eqv_bl, plain_str, plain_int, plain_bl, plain_non, plain_tup, plain_lst, plains_nil, plains_cons, py_str, py_int, py_bl, py_non, py_tup, py_lst, pys_nil, pys_cons, dep_str, dep_int, dep_bl, dep_non, dep_tup, dep_lst, depA_nil, depA_cons, flat_str, flat_int, atI_0, atI_1, atI_2, strL_nil, strL_cons, cut_from1, cut_from2, gLen_s, gLen_l, gLen_t, gLen_f, gB_e, gI_e, gAdd_i, gAdd_s, gAdd_l, gAdd_t, gMul_i, gMul_l, gEq, gNe, gIn_s, gIn_l, gIn_t, gIsN_e, isN_non, isN_str, isN_tup, isN_int, isN_bl, isN_lst, gAll_e, gAny_e, gInt_i, gInt_b, gList_l, gList_t, gTuple_l, gTuple_t, gMin, gMax, gIx_l, gIx_t, gIx_f, gIx_s, gSl_l, gSl_f, gSl_t, gSl_s, q_hide, q_beside, sizeLine_eq]
    exact fin _ _ (by simp [Pl.spell]; omega) (by simp [Pl.d, namesD, q_hide])
  | ren ps p =>
    obtain ⟨hw, hW⟩ := hW.head
    obtain ⟨hw2, hW⟩ := hW.head
    obtain ⟨hy, hp1⟩ := hp
    have hl : (namesT (ps.map pairT)).length ≤ 16777216 := by have := okP_len hy; omega
    unfold Pl.deep at hd
    refine wSet_i (fun P h => mw (fun P' h => ⟨_, rfl, h⟩) ha hi hw h40 h) rfl ?_
    simp [wSeq, wIfS_T, wIfS_F, wIfE_T, wIfE_F, wOrT, wAndT, wNot, wTest, wCall, wCons, wNil, wVar, wC, wChain, wRet, wRetN, wEnd, wOp, wSet, wLst, wTup, wFn, wIt, wNotV, wAndV, wOrA, wSl, wPart, wPart0, wSrc, wSrcPut, wJoin, wSplit, wPartn, wAsg, wgTup, wgCons, wgNil, wgN, wApp, wExt, wDrop, wNever, wFz, wSSet, wLSet, wPwW, wPwP, wPwInc, wMakePW, wMeth, wSetPop, wAugI, wRng1, wRng2, wTrue, wipeD, startD, poOf, and_assoc, gIsi_e, tyS_non, tyS_bl, tyS_int, tyS_str, tyS_tup, tyS_lst, tyS_dct, kitB_1, kitB_2, kitB_3, kitB_4, kitB_5, kitB_6, kitB_7, kitB_8, kitB_9, kitB_10, kitB_11, kitB_12, kitB_13, kitB_14, kitB_15, kitB_16, kitB_17, kitB_18, kitB_19, kitB_20, kitB_21, kitB_22, vw_d, vw_n, vw_b, lst_l, val_d, val_l, arg_d, arg_n, arg_b, dat_d, dat_n, dat_b, out_d, out_n, out_b, vwA_d, vwA_b, vwAs_nil, vwAs_d, vwAs_b, ardat_nil, ardat_d, txts_l, txts_t, seq_l, seq_t, seq_f, seq_s, put_d, put_n, truth_str, truth_bl, truth_tup, truth_lst, sfit_str, sfit_bl, sfit_tup, sfit_lst, frzS, eqv_int, eqv_str, eqv_bl, plain_str, plain_int, plain_bl, plain_non, plain_tup, plain_lst, plains_nil, plains_cons, py_str, py_int, py_bl, py_non, py_tup, py_lst, pys_nil, pys_cons, dep_str, dep_int, dep_bl, dep_non, dep_tup, dep_lst, depA_nil, depA_cons, flat_str, flat_int, atI_0, atI_1, atI_2, strL_nil, strL_cons, cut_from1, cut_from2, gLen_s, gLen_l, gLen_t, gLen_f, gB_e, gI_e, gAdd_i, gAdd_s, gAdd_l, gAdd_t, gMul_i, gMul_l, gEq, gNe, gIn_s, gIn_l, gIn_t, gIsN_e, isN_non, isN_str, isN_tup, isN_int, isN_bl, isN_lst, gAll_e, gAny_e, gInt_i, gInt_b, gList_l, gList_t, gTuple_l, gTuple_t, gMin, gMax, gIx_l, gIx_t, gIx_f, gIx_s, gSl_l, gSl_f, gSl_t, gSl_s, F_is_part_name, F_sure, isPn_1, isPn_2, isPn_3, isPn_4, isPn_5, isPn_6, isPn_7, isPn_8, q_stop, q_part, q_ahead, q_pick, q_offer, q_beside, q_hide, q_rename, sizeLine_eq]
    refine ⟨a, W, i + 1, _, rfl, ha, by simp, hw2, h40, ?_⟩
    simp [wSeq, wIfS_T, wIfS_F, wIfE_T, wIfE_F, wOrT, wAndT, wNot, wTest, wCall, wCons, wNil, wVar, wC, wChain, wRet, wRetN, wEnd, wOp, wSet, wLst, wTup, wFn, wIt, wNotV, wAndV, wOrA, wSl, wPart, wPart0, wSrc, wSrcPut, wJoin, wSplit, wPartn, wAsg, wgTup, wgCons, wgNil, wgN, wApp, wExt, wDrop, wNever, wFz, wSSet, wLSet, wPwW, wPwP, wPwInc, wMakePW, wMeth, wSetPop, wAugI, wRng1, wRng2, wTrue, wipeD, startD, poOf, and_assoc, gIsi_e, tyS_non, tyS_bl, tyS_int, tyS_str, tyS_tup, tyS_lst, tyS_dct, kitB_1, kitB_2, kitB_3, kitB_4, kitB_5, kitB_6, kitB_7, kitB_8, kitB_9, kitB_10, kitB_11, kitB_12, kitB_13, kitB_14, kitB_15, kitB_16, kitB_17, kitB_18, kitB_19, kitB_20, kitB_21, kitB_22, vw_d, vw_n, vw_b, lst_l, val_d, val_l, arg_d, arg_n, arg_b, dat_d, dat_n, dat_b, out_d, out_n, out_b, vwA_d, vwA_b, vwAs_nil, vwAs_d, vwAs_b, ardat_nil, ardat_d, txts_l, txts_t, seq_l, seq_t, seq_f, seq_s, put_d, put_n, truth_str, truth_bl, truth_tup, truth_lst, sfit_str, sfit_bl, sfit_tup, sfit_lst, frzS, eqv_int, eqv_str, eqv_bl, plain_str, plain_int, plain_bl, plain_non, plain_tup, plain_lst, plains_nil, plains_cons, py_str, py_int, py_bl, py_non, py_tup, py_lst, pys_nil, pys_cons, dep_str, dep_int, dep_bl, dep_non, dep_tup, dep_lst, depA_nil, depA_cons, flat_str, flat_int, atI_0, atI_1, atI_2, strL_nil, strL_cons, cut_from1, cut_from2, gLen_s, gLen_l, gLen_t, gLen_f, gB_e, gI_e, gAdd_i, gAdd_s, gAdd_l, gAdd_t, gMul_i, gMul_l, gEq, gNe, gIn_s, gIn_l, gIn_t, gIsN_e, isN_non, isN_str, isN_tup, isN_int, isN_bl, isN_lst, gAll_e, gAny_e, gInt_i, gInt_b, gList_l, gList_t, gTuple_l, gTuple_t, gMin, gMax, gIx_l, gIx_t, gIx_f, gIx_s, gSl_l, gSl_f, gSl_t, gSl_s, q_ahead, q_rename, q_hide, q_beside, sizeLine_eq]
    refine ⟨ps, rfl, hy, ?_⟩
    simp [wSeq, wIfS_T, wIfS_F, wIfE_T, wIfE_F, wOrT, wAndT, wNot, wTest, wCall, wCons, wNil, wVar, wC, wChain, wRet, wRetN, wEnd, wOp, wSet, wLst, wTup, wFn, wIt, wNotV, wAndV, wOrA, wSl, wPart, wPart0, wSrc, wSrcPut, wJoin, wSplit, wPartn, wAsg, wgTup, wgCons, wgNil, wgN, wApp, wExt, wDrop, wNever, wFz, wSSet, wLSet, wPwW, wPwP, wPwInc, wMakePW, wMeth, wSetPop, wAugI, wRng1, wRng2, wTrue, wipeD, startD, poOf, and_assoc, gIsi_e, tyS_non, tyS_bl, tyS_int, tyS_str, tyS_tup, tyS_lst, tyS_dct, kitB_1, kitB_2, kitB_3, kitB_4, kitB_5, kitB_6, kitB_7, kitB_8, kitB_9, kitB_10, kitB_11, kitB_12, kitB_13, kitB_14, kitB_15, kitB_16, kitB_17, kitB_18, kitB_19, kitB_20, kitB_21, kitB_22, vw_d, vw_n, vw_b, lst_l, val_d, val_l, arg_d, arg_n, arg_b, dat_d, dat_n, dat_b, out_d, out_n, out_b, vwA_d, vwA_b, vwAs_nil, vwAs_d, vwAs_b, ardat_nil, ardat_d, txts_l, txts_t, seq_l, seq_t, seq_f, seq_s, put_d, put_n, truth_str, truth_bl, truth_tup, truth_lst, sfit_str, sfit_bl, sfit_tup, sfit_lst, frzS, eqv_int, eqv_str, eqv_bl, plain_str, plain_int, plain_bl, plain_non, plain_tup, plain_lst, plains_nil, plains_cons, py_str, py_int, py_bl, py_non, py_tup, py_lst, pys_nil, pys_cons, dep_str, dep_int, dep_bl, dep_non, dep_tup, dep_lst, depA_nil, depA_cons, flat_str, flat_int, atI_0, atI_1, atI_2, strL_nil, strL_cons, cut_from1, cut_from2, gLen_s, gLen_l, gLen_t, gLen_f, gB_e, gI_e, gAdd_i, gAdd_s, gAdd_l, gAdd_t, gMul_i, gMul_l, gEq, gNe, gIn_s, gIn_l, gIn_t, gIsN_e, isN_non, isN_str, isN_tup, isN_int, isN_bl, isN_lst, gAll_e, gAny_e, gInt_i, gInt_b, gList_l, gList_t, gTuple_l, gTuple_t, gMin, gMax, gIx_l, gIx_t, gIx_f, gIx_s, gSl_l, gSl_f, gSl_t, gSl_s, F_sure, pairsD, q_ahead, q_rename, q_hide, q_beside, sizeLine_eq]
    refine ⟨a, W, i + 2, p, rfl, ha, by simp; omega, h40, hW, hp1, by omega, ?_⟩
    simp [wSeq, wIfS_T, wIfS_F, wIfE_T, wIfE_F, wOrT, wAndT, wNot, wTest, wCall, wCons, wNil, wVar, wC, wChain, wRet, wRetN, wEnd, wOp, wSet, wLst, wTup, wFn, wIt, wNotV, wAndV, wOrA, wSl, wPart, wPart0, wSrc, wSrcPut, wJoin, wSplit, wPartn, wAsg, wgTup, wgCons, wgNil, wgN, wApp, wExt, wDrop, wNever, wFz, wSSet, wLSet, wPwW, wPwP, wPwInc, wMakePW, wMeth, wSetPop, wAugI, wRng1, wRng2, wTrue, wipeD, startD, poOf, and_assoc, gIsi_e, tyS_non, tyS_bl, tyS_int, tyS_str, tyS_tup, tyS_lst, tyS_dct, kitB_1, kitB_2, kitB_3, kitB_4, kitB_5, kitB_6, kitB_7, kitB_8, kitB_9, kitB_10, kitB_11, kitB_12, kitB_13, kitB_14, kitB_15, kitB_16, kitB_17, kitB_18, kitB_19, kitB_20, kitB_21, kitB_22, vw_d, vw_n, vw_b, lst_l, val_d, val_l, arg_d, arg_n, arg_b, dat_d, dat_n, dat_b, out_d, out_n, out_b, vwA_d, vwA_b, vwAs_nil, vwAs_d, vwAs_b, ardat_nil, ardat_d, txts_l, txts_t, seq_l, seq_t, seq_f, seq_s, put_d, put_n, truth_str, truth_bl, truth_tup, truth_lst, sfit_str, sfit_bl, sfit_tup, sfit_lst, frzS, eqv_int, eqv_str, eqv_bl, plain_str, plain_int, plain_bl, plain_non, plain_tup, plain_lst, plains_nil, plains_cons, py_str, py_int, py_bl, py_non, py_tup, py_lst, pys_nil, pys_cons, dep_str, dep_int, dep_bl, dep_non, dep_tup, dep_lst, depA_nil, depA_cons, flat_str, flat_int, atI_0, atI_1, atI_2, strL_nil, strL_cons, cut_from1, cut_from2, gLen_s, gLen_l, gLen_t, gLen_f, gB_e, gI_e, gAdd_i, gAdd_s, gAdd_l, gAdd_t, gMul_i, gMul_l, gEq, gNe, gIn_s, gIn_l, gIn_t, gIsN_e, isN_non, isN_str, isN_tup, isN_int, isN_bl, isN_lst, gAll_e, gAny_e, gInt_i, gInt_b, gList_l, gList_t, gTuple_l, gTuple_t, gMin, gMax, gIx_l, gIx_t, gIx_f, gIx_s, gSl_l, gSl_f, gSl_t, gSl_s, q_rename, q_beside, sizeLine_eq]
    exact fin _ _ (by simp [Pl.spell]; omega) (by simp [Pl.d, pairsD, q_rename])
end DL
namespace DL
open PySem PySem.Spec PyProof.Rows L2
/-- no blank in it, not long -/
def okW (w : List Nat) : Prop := 32 ∉ w ∧ w.length ≤ 180
theorem okW_nm {y : List Nat} (h : isNm y = true) : okW y := ⟨nm_no h (by decide), by have := (isNm_len h).2; omega⟩
theorem okW_names {ys : List (List Nat)} {m : Nat} (h : ∀ y ∈ ys, 32 ∉ y) (hl : (namesT ys).length ≤ 180) : okW (namesT ys) := by
  refine ⟨fun z => ?_, hl⟩
  unfold namesT at z
  split at z
  · rw [q_dash] at z; simp at z
  · rw [q_comma] at z
    rcases joinS_mem z with z | ⟨y, hy, z⟩
    · simp at z
    · exact h y hy z
theorem okW_spell : ∀ {p : Pl}, p.ok → ∀ w ∈ p.spell, okW w
  | .stop, _, w, hw => by
    simp only [Pl.spell, List.mem_singleton] at hw
    subst hw
    rw [q_stop]; unfold okW; decide
  | .part x, h, w, hw => by
    simp only [Pl.spell, List.mem_singleton] at hw
    subst hw
    exact okW_nm (isPn_ne h).1
  | .ahead s p, h, w, hw => by
    simp only [Pl.spell, List.mem_cons] at hw
    rcases hw with rfl | rfl | hw
    · rw [q_ahead]; unfold okW; decide
    · have hs := h.1
      unfold isSg at hs
      rw [Bool.or_eq_true] at hs
      rcases hs with h | h
      · exact okW_nm h
      · rw [q_dot] at h
        rw [eq_of_beq h]; unfold okW; decide
    · exact okW_spell h.2 w hw
  | .two b p r, h, w, hw => by
    simp only [Pl.spell, List.mem_cons, List.mem_append] at hw
    rcases hw with rfl | hw | hw
    · cases b
      · simp only [Bool.false_eq_true, if_false]; rw [q_pick]; unfold okW; decide
      · simp only [if_true]; rw [q_offer]; unfold okW; decide
    · exact okW_spell h.1 w hw
    · exact okW_spell h.2 w hw
  | .beside ys p r, h, w, hw => by
    simp only [Pl.spell, List.mem_cons, List.mem_append] at hw
    rcases hw with rfl | rfl | hw | hw
    · rw [q_beside]; unfold okW; decide
    · exact okW_names (m := 0) (fun y hy => nm_no (h.1.1 y hy) (by decide)) (by have := okN_len h.1; omega)
    · exact okW_spell h.2.1 w hw
    · exact okW_spell h.2.2 w hw
  | .hide ys p, h, w, hw => by
    simp only [Pl.spell, List.mem_cons] at hw
    rcases hw with rfl | rfl | hw
    · rw [q_hide]; unfold okW; decide
    · exact okW_names (m := 0) (fun y hy => nm_no (h.1.1 y hy) (by decide)) (by have := okN_len h.1; omega)
    · exact okW_spell h.2 w hw
  | .ren ps p, h, w, hw => by
    simp only [Pl.spell, List.mem_cons] at hw
    rcases hw with rfl | rfl | hw
    · rw [q_rename]; unfold okW; decide
    · exact okW_names (m := 0) (fun y hy => by
        obtain ⟨p, hp, rfl⟩ := List.mem_map.mp hy
        exact pairT_no (h.1.1 p hp).1 (h.1.1 p hp).2 (by decide) (by decide)) (okP_len h.1)
    · exact okW_spell h.2 w hw
theorem spell_ne (p : Pl) : p.spell ≠ [] := by cases p <;> simp [Pl.spell]
theorem deep_le : ∀ p : Pl, p.deep ≤ p.spell.length
  | .stop => by simp [Pl.deep, Pl.spell]
  | .part x => by simp [Pl.deep, Pl.spell]
  | .ahead s p => by have := deep_le p; simp [Pl.deep, Pl.spell]; omega
  | .two b p r => by have := deep_le p; have := deep_le r; simp [Pl.deep, Pl.spell]; omega
  | .beside ys p r => by have := deep_le p; have := deep_le r; simp [Pl.deep, Pl.spell]; omega
  | .hide ys p => by have := deep_le p; simp [Pl.deep, Pl.spell]; omega
  | .ren ps p => by have := deep_le p; simp [Pl.deep, Pl.spell]; omega
/-- a plan that the law makes -/
def Pl.fit (p : Pl) : Prop := p.ok ∧ p.spell.length ≤ 40
def txt (p : Pl) : List Nat := joinS (q " ") p.spell
theorem sum_le {k : Nat} : ∀ {ys : List (List Nat)}, (∀ y ∈ ys, y.length ≤ k) → (ys.map (·.length)).sum ≤ ys.length * k
  | [], _ => by simp
  | y :: r, h => by
    have h1 := h y List.mem_cons_self
    have h2 := sum_le fun z hz => h z (List.mem_cons_of_mem _ hz)
    simp only [List.map_cons, List.sum_cons, List.length_cons]
    rw [Nat.succ_mul]
    omega
theorem fit_sum {p : Pl} (h : p.fit) : (p.spell.map (·.length)).sum + p.spell.length * (q " ").length ≤ 7240 := by
  have h1 := sum_le (ys := p.spell) (k := 180) fun y hy => (okW_spell h.1 y hy).2
  have h2 := h.2
  have : p.spell.length * 180 ≤ 40 * 180 := Nat.mul_le_mul_right _ h2
  rw [q_blank]
  simp only [List.length_singleton]
  omega
theorem txt_len {p : Pl} (h : p.fit) : (txt p).length ≤ 7240 := Nat.le_trans (joinS_len _ _) (fit_sum h)
theorem txt_cut {p : Pl} (h : p.fit) : cut1 32 (txt p) = p.spell := by
  unfold txt
  rw [q_blank]
  exact cut_join (spell_ne p) fun y hy => (okW_spell h.1 y hy).1
def F_show_plan : FW := fun ds n R _ => ∃ p : Pl, ds = [p.d] ∧ p.fit ∧ R n (.d (.str (txt p)))
theorem pu_show_plan : ∀ ds n R PX, ds.length = 1 → F_show_plan ds n R PX → w_show_plan (F_words_of 40) (startD 1 ds) n (poOf R PXF0) := by
  rintro ds n R PX - ⟨p, rfl, hp, hR⟩
  unfold w_show_plan F_words_of
  simp [wSeq, wIfS_T, wIfS_F, wIfE_T, wIfE_F, wOrT, wAndT, wNot, wTest, wCall, wCons, wNil, wVar, wC, wChain, wRet, wRetN, wEnd, wOp, wSet, wLst, wTup, wFn, wIt, wNotV, wAndV, wOrA, wSl, wPart, wPart0, wSrc, wSrcPut, wJoin, wSplit, wPartn, wAsg, wgTup, wgCons, wgNil, wgN, wApp, wExt, wDrop, wNever, wFz, wSSet, wLSet, wPwW, wPwP, wPwInc, wMakePW, wMeth, wSetPop, wAugI, wRng1, wRng2, wTrue, wipeD, startD, poOf, and_assoc, gIsi_e, tyS_non, tyS_bl, tyS_int, tyS_str, tyS_tup, tyS_lst, tyS_dct, kitB_1, kitB_2, kitB_3, kitB_4, kitB_5, kitB_6, kitB_7, kitB_8, kitB_9, kitB_10, kitB_11, kitB_12, kitB_13, kitB_14, kitB_15, kitB_16, kitB_17, kitB_18, kitB_19, kitB_20, kitB_21, kitB_22, vw_d, vw_n, vw_b, lst_l, val_d, val_l, arg_d, arg_n, arg_b, dat_d, dat_n, dat_b, out_d, out_n, out_b, vwA_d, vwA_b, vwAs_nil, vwAs_d, vwAs_b, ardat_nil, ardat_d, txts_l, txts_t, seq_l, seq_t, seq_f, seq_s, put_d, put_n, truth_str, truth_bl, truth_tup, truth_lst, sfit_str, sfit_bl, sfit_tup, sfit_lst, frzS, eqv_int, eqv_str, eqv_bl, plain_str, plain_int, plain_bl, plain_non, plain_tup, plain_lst, plains_nil, plains_cons, py_str, py_int, py_bl, py_non, py_tup, py_lst, pys_nil, pys_cons, dep_str, dep_int, dep_bl, dep_non, dep_tup, dep_lst, depA_nil, depA_cons, flat_str, flat_int, atI_0, atI_1, atI_2, strL_nil, strL_cons, cut_from1, cut_from2, gLen_s, gLen_l, gLen_t, gLen_f, gB_e, gI_e, gAdd_i, gAdd_s, gAdd_l, gAdd_t, gMul_i, gMul_l, gEq, gNe, gIn_s, gIn_l, gIn_t, gIsN_e, isN_non, isN_str, isN_tup, isN_int, isN_bl, isN_lst, gAll_e, gAny_e, gInt_i, gInt_b, gList_l, gList_t, gTuple_l, gTuple_t, gMin, gMax, gIx_l, gIx_t, gIx_f, gIx_s, gSl_l, gSl_f, gSl_t, gSl_s]
  refine ⟨p, rfl, hp.1, Nat.le_trans (deep_le p) hp.2, by have := hp.2; omega, _, D.strL_map _, by have := fit_sum hp; omega, hR⟩
def F_read_plan : FW := fun ds n R _ => ∃ p : Pl, ds = [.str (txt p)] ∧ p.fit ∧ ∀ n', n'.n = n.n → R n' (.d p.d)
theorem pu_read_plan (C : Addr) : ∀ ds n R PX, ds.length = 1 → F_read_plan ds n R PX → w_read_plan C (F_plan_in C 40) (F_ended C) (startD 3 ds) n (poOf R PXF0) := by
  rintro ds n R PX - ⟨p, rfl, hp, hR⟩
  have hl := txt_len hp
  unfold w_read_plan
  simp [wSeq, wIfS_T, wIfS_F, wIfE_T, wIfE_F, wOrT, wAndT, wNot, wTest, wCall, wCons, wNil, wVar, wC, wChain, wRet, wRetN, wEnd, wOp, wSet, wLst, wTup, wFn, wIt, wNotV, wAndV, wOrA, wSl, wPart, wPart0, wSrc, wSrcPut, wJoin, wSplit, wPartn, wAsg, wgTup, wgCons, wgNil, wgN, wApp, wExt, wDrop, wNever, wFz, wSSet, wLSet, wPwW, wPwP, wPwInc, wMakePW, wMeth, wSetPop, wAugI, wRng1, wRng2, wTrue, wipeD, startD, poOf, and_assoc, gIsi_e, tyS_non, tyS_bl, tyS_int, tyS_str, tyS_tup, tyS_lst, tyS_dct, kitB_1, kitB_2, kitB_3, kitB_4, kitB_5, kitB_6, kitB_7, kitB_8, kitB_9, kitB_10, kitB_11, kitB_12, kitB_13, kitB_14, kitB_15, kitB_16, kitB_17, kitB_18, kitB_19, kitB_20, kitB_21, kitB_22, vw_d, vw_n, vw_b, lst_l, val_d, val_l, arg_d, arg_n, arg_b, dat_d, dat_n, dat_b, out_d, out_n, out_b, vwA_d, vwA_b, vwAs_nil, vwAs_d, vwAs_b, ardat_nil, ardat_d, txts_l, txts_t, seq_l, seq_t, seq_f, seq_s, put_d, put_n, truth_str, truth_bl, truth_tup, truth_lst, sfit_str, sfit_bl, sfit_tup, sfit_lst, frzS, eqv_int, eqv_str, eqv_bl, plain_str, plain_int, plain_bl, plain_non, plain_tup, plain_lst, plains_nil, plains_cons, py_str, py_int, py_bl, py_non, py_tup, py_lst, pys_nil, pys_cons, dep_str, dep_int, dep_bl, dep_non, dep_tup, dep_lst, depA_nil, depA_cons, flat_str, flat_int, atI_0, atI_1, atI_2, strL_nil, strL_cons, cut_from1, cut_from2, gLen_s, gLen_l, gLen_t, gLen_f, gB_e, gI_e, gAdd_i, gAdd_s, gAdd_l, gAdd_t, gMul_i, gMul_l, gEq, gNe, gIn_s, gIn_l, gIn_t, gIsN_e, isN_non, isN_str, isN_tup, isN_int, isN_bl, isN_lst, gAll_e, gAny_e, gInt_i, gInt_b, gList_l, gList_t, gTuple_l, gTuple_t, gMin, gMax, gIx_l, gIx_t, gIx_f, gIx_s, gSl_l, gSl_f, gSl_t, gSl_s, q_blank, txt_cut hp, sizeLine_eq]
  refine ⟨by omega, fun a => ?_⟩
  refine ⟨a, p.spell, 0, p, rfl, rfl, rfl, hp.2, ⟨[], by simp⟩, hp.1, Nat.le_trans (deep_le p) hp.2, ?_⟩
  simp [wSeq, wIfS_T, wIfS_F, wIfE_T, wIfE_F, wOrT, wAndT, wNot, wTest, wCall, wCons, wNil, wVar, wC, wChain, wRet, wRetN, wEnd, wOp, wSet, wLst, wTup, wFn, wIt, wNotV, wAndV, wOrA, wSl, wPart, wPart0, wSrc, wSrcPut, wJoin, wSplit, wPartn, wAsg, wgTup, wgCons, wgNil, wgN, wApp, wExt, wDrop, wNever, wFz, wSSet, wLSet, wPwW, wPwP, wPwInc, wMakePW, wMeth, wSetPop, wAugI, wRng1, wRng2, wTrue, wipeD, startD, poOf, and_assoc, gIsi_e, tyS_non, tyS_bl, tyS_int, tyS_str, tyS_tup, tyS_lst, tyS_dct, kitB_1, kitB_2, kitB_3, kitB_4, kitB_5, kitB_6, kitB_7, kitB_8, kitB_9, kitB_10, kitB_11, kitB_12, kitB_13, kitB_14, kitB_15, kitB_16, kitB_17, kitB_18, kitB_19, kitB_20, kitB_21, kitB_22, vw_d, vw_n, vw_b, lst_l, val_d, val_l, arg_d, arg_n, arg_b, dat_d, dat_n, dat_b, out_d, out_n, out_b, vwA_d, vwA_b, vwAs_nil, vwAs_d, vwAs_b, ardat_nil, ardat_d, txts_l, txts_t, seq_l, seq_t, seq_f, seq_s, put_d, put_n, truth_str, truth_bl, truth_tup, truth_lst, sfit_str, sfit_bl, sfit_tup, sfit_lst, frzS, eqv_int, eqv_str, eqv_bl, plain_str, plain_int, plain_bl, plain_non, plain_tup, plain_lst, plains_nil, plains_cons, py_str, py_int, py_bl, py_non, py_tup, py_lst, pys_nil, pys_cons, dep_str, dep_int, dep_bl, dep_non, dep_tup, dep_lst, depA_nil, depA_cons, flat_str, flat_int, atI_0, atI_1, atI_2, strL_nil, strL_cons, cut_from1, cut_from2, gLen_s, gLen_l, gLen_t, gLen_f, gB_e, gI_e, gAdd_i, gAdd_s, gAdd_l, gAdd_t, gMul_i, gMul_l, gEq, gNe, gIn_s, gIn_l, gIn_t, gIsN_e, isN_non, isN_str, isN_tup, isN_int, isN_bl, isN_lst, gAll_e, gAny_e, gInt_i, gInt_b, gList_l, gList_t, gTuple_l, gTuple_t, gMin, gMax, gIx_l, gIx_t, gIx_f, gIx_s, gSl_l, gSl_f, gSl_t, gSl_s]
  refine ⟨a, p.spell, rfl, rfl, by simp, ?_⟩
  exact hR _ rfl
def F_parts_from_left (k : Nat) : FW := fun ds n R _ => ∃ p : Pl, ds = [p.d] ∧ p.ok ∧ p.deep ≤ k ∧ p.leaves.length ≤ 16000000 ∧ R n (.n (p.leaves.map .str))
theorem leaves_eq (p : Pl) (h : ∀ x, p ≠ .part x) : p.leaves = p.subs.flatMap Pl.leaves := by
  cases p <;> first | exact absurd rfl (h _) | simp [Pl.leaves, Pl.subs]
theorem leaves_le : ∀ p : Pl, p.leaves.length ≤ p.spell.length
  | .stop => by simp [Pl.leaves]
  | .part x => by simp [Pl.leaves, Pl.spell]
  | .ahead s p => by have := leaves_le p; simp [Pl.leaves, Pl.spell]; omega
  | .two b p r => by have := leaves_le p; have := leaves_le r; simp [Pl.leaves, Pl.spell]; omega
  | .beside ys p r => by have := leaves_le p; have := leaves_le r; simp [Pl.leaves, Pl.spell]; omega
  | .hide ys p => by have := leaves_le p; simp [Pl.leaves, Pl.spell]; omega
  | .ren ps p => by have := leaves_le p; simp [Pl.leaves, Pl.spell]; omega
theorem pu_parts_from_left (k : Nat) : ∀ ds n R PX, ds.length = 1 → F_parts_from_left (k + 1) ds n R PX → w_parts_from_left F_plans_in (F_parts_from_left k) (startD 3 ds) n (poOf R PXF0) := by
  rintro ds n R PX - ⟨p, rfl, hp, hd, hl, hR⟩
  unfold w_parts_from_left
  by_cases hx : ∃ x, p = .part x
  · obtain ⟨x, rfl⟩ := hx
    simp only [Pl.d]
    simp [wSeq, wIfS_T, wIfS_F, wIfE_T, wIfE_F, wOrT, wAndT, wNot, wTest, wCall, wCons, wNil, wVar, wC, wChain, wRet, wRetN, wEnd, wOp, wSet, wLst, wTup, wFn, wIt, wNotV, wAndV, wOrA, wSl, wPart, wPart0, wSrc, wSrcPut, wJoin, wSplit, wPartn, wAsg, wgTup, wgCons, wgNil, wgN, wApp, wExt, wDrop, wNever, wFz, wSSet, wLSet, wPwW, wPwP, wPwInc, wMakePW, wMeth, wSetPop, wAugI, wRng1, wRng2, wTrue, wipeD, startD, poOf, and_assoc, gIsi_e, tyS_non, tyS_bl, tyS_int, tyS_str, tyS_tup, tyS_lst, tyS_dct, kitB_1, kitB_2, kitB_3, kitB_4, kitB_5, kitB_6, kitB_7, kitB_8, kitB_9, kitB_10, kitB_11, kitB_12, kitB_13, kitB_14, kitB_15, kitB_16, kitB_17, kitB_18, kitB_19, kitB_20, kitB_21, kitB_22, vw_d, vw_n, vw_b, lst_l, val_d, val_l, arg_d, arg_n, arg_b, dat_d, dat_n, dat_b, out_d, out_n, out_b, vwA_d, vwA_b, vwAs_nil, vwAs_d, vwAs_b, ardat_nil, ardat_d, txts_l, txts_t, seq_l, seq_t, seq_f, seq_s, put_d, put_n, truth_str, truth_bl, truth_tup, truth_lst, sfit_str, sfit_bl, sfit_tup, sfit_lst, frzS, eqv_int, eqv_str, eqv_bl, plain_str, plain_int, plain_bl, plain_non, plain_tup, plain_lst, plains_nil, plains_cons, py_str, py_int, py_bl, py_non, py_tup, py_lst, pys_nil, pys_cons, dep_str, dep_int, dep_bl, dep_non, dep_tup, dep_lst, depA_nil, depA_cons, flat_str, flat_int, atI_0, atI_1, atI_2, strL_nil, strL_cons, cut_from1, cut_from2, gLen_s, gLen_l, gLen_t, gLen_f, gB_e, gI_e, gAdd_i, gAdd_s, gAdd_l, gAdd_t, gMul_i, gMul_l, gEq, gNe, gIn_s, gIn_l, gIn_t, gIsN_e, isN_non, isN_str, isN_tup, isN_int, isN_bl, isN_lst, gAll_e, gAny_e, gInt_i, gInt_b, gList_l, gList_t, gTuple_l, gTuple_t, gMin, gMax, gIx_l, gIx_t, gIx_f, gIx_s, gSl_l, gSl_f, gSl_t, gSl_s, q_part, sizeLine_eq]
    simpa [Pl.leaves] using hR
  have hx : ∀ x, p ≠ .part x := fun x e => hx ⟨x, e⟩
  simp only [wSeq]
  refine wIfS_sym false (fun P h => ?_) (fun z => by cases z) fun _ => ?_
  · cases p with
    | part x => exact absurd rfl (hx x)
    | two b p r => cases b <;> (simp only [Pl.d]; simp [wSeq, wIfS_T, wIfS_F, wIfE_T, wIfE_F, wOrT, wAndT, wNot, wTest, wCall, wCons, wNil, wVar, wC, wChain, wRet, wRetN, wEnd, wOp, wSet, wLst, wTup, wFn, wIt, wNotV, wAndV, wOrA, wSl, wPart, wPart0, wSrc, wSrcPut, wJoin, wSplit, wPartn, wAsg, wgTup, wgCons, wgNil, wgN, wApp, wExt, wDrop, wNever, wFz, wSSet, wLSet, wPwW, wPwP, wPwInc, wMakePW, wMeth, wSetPop, wAugI, wRng1, wRng2, wTrue, wipeD, startD, poOf, and_assoc, gIsi_e, tyS_non, tyS_bl, tyS_int, tyS_str, tyS_tup, tyS_lst, tyS_dct, kitB_1, kitB_2, kitB_3, kitB_4, kitB_5, kitB_6, kitB_7, kitB_8, kitB_9, kitB_10, kitB_11, kitB_12, kitB_13, kitB_14, kitB_15, kitB_16, kitB_17, kitB_18, kitB_19, kitB_20, kitB_21, kitB_22, vw_d, vw_n, vw_b, lst_l, val_d, val_l, arg_d, arg_n, arg_b, dat_d, dat_n, dat_b, out_d, out_n, out_b, vwA_d, vwA_b, vwAs_nil, vwAs_d, vwAs_b, ardat_nil, ardat_d, txts_l, txts_t, seq_l, seq_t, seq_f, seq_s, put_d, put_n, truth_str, truth_bl, truth_tup, truth_lst, sfit_str, sfit_bl, sfit_tup, sfit_lst, frzS, eqv_int, eqv_str, eqv_bl, plain_str, plain_int, plain_bl, plain_non, plain_tup, plain_lst, plains_nil, plains_cons, py_str, py_int, py_bl, py_non, py_tup, py_lst, pys_nil, pys_cons, dep_str, dep_int, dep_bl, dep_non, dep_tup, dep_lst, depA_nil, depA_cons, flat_str, flat_int, atI_0, atI_1, atI_2, strL_nil, strL_cons, cut_from1, cut_from2, gLen_s, gLen_l, gLen_t, gLen_f, gB_e, gI_e, gAdd_i, gAdd_s, gAdd_l, gAdd_t, gMul_i, gMul_l, gEq, gNe, gIn_s, gIn_l, gIn_t, gIsN_e, isN_non, isN_str, isN_tup, isN_int, isN_bl, isN_lst, gAll_e, gAny_e, gInt_i, gInt_b, gList_l, gList_t, gTuple_l, gTuple_t, gMin, gMax, gIx_l, gIx_t, gIx_f, gIx_s, gSl_l, gSl_f, gSl_t, gSl_s, q_part, q_pick, q_offer]; exact h)
    | _ => simp only [Pl.d, namesD, pairsD]; simp [wSeq, wIfS_T, wIfS_F, wIfE_T, wIfE_F, wOrT, wAndT, wNot, wTest, wCall, wCons, wNil, wVar, wC, wChain, wRet, wRetN, wEnd, wOp, wSet, wLst, wTup, wFn, wIt, wNotV, wAndV, wOrA, wSl, wPart, wPart0, wSrc, wSrcPut, wJoin, wSplit, wPartn, wAsg, wgTup, wgCons, wgNil, wgN, wApp, wExt, wDrop, wNever, wFz, wSSet, wLSet, wPwW, wPwP, wPwInc, wMakePW, wMeth, wSetPop, wAugI, wRng1, wRng2, wTrue, wipeD, startD, poOf, and_assoc, gIsi_e, tyS_non, tyS_bl, tyS_int, tyS_str, tyS_tup, tyS_lst, tyS_dct, kitB_1, kitB_2, kitB_3, kitB_4, kitB_5, kitB_6, kitB_7, kitB_8, kitB_9, kitB_10, kitB_11, kitB_12, kitB_13, kitB_14, kitB_15, kitB_16, kitB_17, kitB_18, kitB_19, kitB_20, kitB_21, kitB_22, vw_d, vw_n, vw_b, lst_l, val_d, val_l, arg_d, arg_n, arg_b, dat_d, dat_n, dat_b, out_d, out_n, out_b, vwA_d, vwA_b, vwAs_nil, vwAs_d, vwAs_b, ardat_nil, ardat_d, txts_l, txts_t, seq_l, seq_t, seq_f, seq_s, put_d, put_n, truth_str, truth_bl, truth_tup, truth_lst, sfit_str, sfit_bl, sfit_tup, sfit_lst, frzS, eqv_int, eqv_str, eqv_bl, plain_str, plain_int, plain_bl, plain_non, plain_tup, plain_lst, plains_nil, plains_cons, py_str, py_int, py_bl, py_non, py_tup, py_lst, pys_nil, pys_cons, dep_str, dep_int, dep_bl, dep_non, dep_tup, dep_lst, depA_nil, depA_cons, flat_str, flat_int, atI_0, atI_1, atI_2, strL_nil, strL_cons, cut_from1, cut_from2, gLen_s, gLen_l, gLen_t, gLen_f, gB_e, gI_e, gAdd_i, gAdd_s, gAdd_l, gAdd_t, gMul_i, gMul_l, gEq, gNe, gIn_s, gIn_l, gIn_t, gIsN_e, isN_non, isN_str, isN_tup, isN_int, isN_bl, isN_lst, gAll_e, gAny_e, gInt_i, gInt_b, gList_l, gList_t, gTuple_l, gTuple_t, gMin, gMax, gIx_l, gIx_t, gIx_f, gIx_s, gSl_l, gSl_f, gSl_t, gSl_s, q_part, q_stop, q_ahead, q_beside, q_hide, q_rename]; exact h
  simp only [wEnd]
  refine wSet_i (n' := n) (r := .n []) (fun P h => by simp [wSeq, wIfS_T, wIfS_F, wIfE_T, wIfE_F, wOrT, wAndT, wNot, wTest, wCall, wCons, wNil, wVar, wC, wChain, wRet, wRetN, wEnd, wOp, wSet, wLst, wTup, wFn, wIt, wNotV, wAndV, wOrA, wSl, wPart, wPart0, wSrc, wSrcPut, wJoin, wSplit, wPartn, wAsg, wgTup, wgCons, wgNil, wgN, wApp, wExt, wDrop, wNever, wFz, wSSet, wLSet, wPwW, wPwP, wPwInc, wMakePW, wMeth, wSetPop, wAugI, wRng1, wRng2, wTrue, wipeD, startD, poOf, and_assoc, gIsi_e, tyS_non, tyS_bl, tyS_int, tyS_str, tyS_tup, tyS_lst, tyS_dct, kitB_1, kitB_2, kitB_3, kitB_4, kitB_5, kitB_6, kitB_7, kitB_8, kitB_9, kitB_10, kitB_11, kitB_12, kitB_13, kitB_14, kitB_15, kitB_16, kitB_17, kitB_18, kitB_19, kitB_20, kitB_21, kitB_22, vw_d, vw_n, vw_b, lst_l, val_d, val_l, arg_d, arg_n, arg_b, dat_d, dat_n, dat_b, out_d, out_n, out_b, vwA_d, vwA_b, vwAs_nil, vwAs_d, vwAs_b, ardat_nil, ardat_d, txts_l, txts_t, seq_l, seq_t, seq_f, seq_s, put_d, put_n, truth_str, truth_bl, truth_tup, truth_lst, sfit_str, sfit_bl, sfit_tup, sfit_lst, frzS, eqv_int, eqv_str, eqv_bl, plain_str, plain_int, plain_bl, plain_non, plain_tup, plain_lst, plains_nil, plains_cons, py_str, py_int, py_bl, py_non, py_tup, py_lst, pys_nil, pys_cons, dep_str, dep_int, dep_bl, dep_non, dep_tup, dep_lst, depA_nil, depA_cons, flat_str, flat_int, atI_0, atI_1, atI_2, strL_nil, strL_cons, cut_from1, cut_from2, gLen_s, gLen_l, gLen_t, gLen_f, gB_e, gI_e, gAdd_i, gAdd_s, gAdd_l, gAdd_t, gMul_i, gMul_l, gEq, gNe, gIn_s, gIn_l, gIn_t, gIsN_e, isN_non, isN_str, isN_tup, isN_int, isN_bl, isN_lst, gAll_e, gAny_e, gInt_i, gInt_b, gList_l, gList_t, gTuple_l, gTuple_t, gMin, gMax, gIx_l, gIx_t, gIx_f, gIx_s, gSl_l, gSl_f, gSl_t, gSl_s, sizeLine_eq]; exact h) (put_n _ _ _) ?_
  dsimp only
  refine wFor_i p.subs Pl.d n (fun i δ m => m = n ∧ ∃ s2, δ = [.d p.d, .l (((p.subs.take i).flatMap Pl.leaves).map .str), s2]) (fun P' h => ?_) ⟨rfl, .u, by simp [startD]⟩ ?_ ?_
  · unfold F_plans_in
    simp [wSeq, wIfS_T, wIfS_F, wIfE_T, wIfE_F, wOrT, wAndT, wNot, wTest, wCall, wCons, wNil, wVar, wC, wChain, wRet, wRetN, wEnd, wOp, wSet, wLst, wTup, wFn, wIt, wNotV, wAndV, wOrA, wSl, wPart, wPart0, wSrc, wSrcPut, wJoin, wSplit, wPartn, wAsg, wgTup, wgCons, wgNil, wgN, wApp, wExt, wDrop, wNever, wFz, wSSet, wLSet, wPwW, wPwP, wPwInc, wMakePW, wMeth, wSetPop, wAugI, wRng1, wRng2, wTrue, wipeD, startD, poOf, and_assoc, gIsi_e, tyS_non, tyS_bl, tyS_int, tyS_str, tyS_tup, tyS_lst, tyS_dct, kitB_1, kitB_2, kitB_3, kitB_4, kitB_5, kitB_6, kitB_7, kitB_8, kitB_9, kitB_10, kitB_11, kitB_12, kitB_13, kitB_14, kitB_15, kitB_16, kitB_17, kitB_18, kitB_19, kitB_20, kitB_21, kitB_22, vw_d, vw_n, vw_b, lst_l, val_d, val_l, arg_d, arg_n, arg_b, dat_d, dat_n, dat_b, out_d, out_n, out_b, vwA_d, vwA_b, vwAs_nil, vwAs_d, vwAs_b, ardat_nil, ardat_d, txts_l, txts_t, seq_l, seq_t, seq_f, seq_s, put_d, put_n, truth_str, truth_bl, truth_tup, truth_lst, sfit_str, sfit_bl, sfit_tup, sfit_lst, frzS, eqv_int, eqv_str, eqv_bl, plain_str, plain_int, plain_bl, plain_non, plain_tup, plain_lst, plains_nil, plains_cons, py_str, py_int, py_bl, py_non, py_tup, py_lst, pys_nil, pys_cons, dep_str, dep_int, dep_bl, dep_non, dep_tup, dep_lst, depA_nil, depA_cons, flat_str, flat_int, atI_0, atI_1, atI_2, strL_nil, strL_cons, cut_from1, cut_from2, gLen_s, gLen_l, gLen_t, gLen_f, gB_e, gI_e, gAdd_i, gAdd_s, gAdd_l, gAdd_t, gMul_i, gMul_l, gEq, gNe, gIn_s, gIn_l, gIn_t, gIsN_e, isN_non, isN_str, isN_tup, isN_int, isN_bl, isN_lst, gAll_e, gAny_e, gInt_i, gInt_b, gList_l, gList_t, gTuple_l, gTuple_t, gMin, gMax, gIx_l, gIx_t, gIx_f, gIx_s, gSl_l, gSl_f, gSl_t, gSl_s]
    exact ⟨p, rfl, h⟩
  · rintro i δ m x hx2 ⟨rfl, s2, rfl⟩
    obtain ⟨h1, h2⟩ := subs_ok hp (List.mem_of_getElem? hx2)
    have ef := flat_take Pl.leaves hx2
    have le := flat_len_le Pl.leaves p.subs (i + 1)
    rw [← leaves_eq p hx, ef, List.length_append] at le
    unfold F_parts_from_left
    simp [wSeq, wIfS_T, wIfS_F, wIfE_T, wIfE_F, wOrT, wAndT, wNot, wTest, wCall, wCons, wNil, wVar, wC, wChain, wRet, wRetN, wEnd, wOp, wSet, wLst, wTup, wFn, wIt, wNotV, wAndV, wOrA, wSl, wPart, wPart0, wSrc, wSrcPut, wJoin, wSplit, wPartn, wAsg, wgTup, wgCons, wgNil, wgN, wApp, wExt, wDrop, wNever, wFz, wSSet, wLSet, wPwW, wPwP, wPwInc, wMakePW, wMeth, wSetPop, wAugI, wRng1, wRng2, wTrue, wipeD, startD, poOf, and_assoc, gIsi_e, tyS_non, tyS_bl, tyS_int, tyS_str, tyS_tup, tyS_lst, tyS_dct, kitB_1, kitB_2, kitB_3, kitB_4, kitB_5, kitB_6, kitB_7, kitB_8, kitB_9, kitB_10, kitB_11, kitB_12, kitB_13, kitB_14, kitB_15, kitB_16, kitB_17, kitB_18, kitB_19, kitB_20, kitB_21, kitB_22, vw_d, vw_n, vw_b, lst_l, val_d, val_l, arg_d, arg_n, arg_b, dat_d, dat_n, dat_b, out_d, out_n, out_b, vwA_d, vwA_b, vwAs_nil, vwAs_d, vwAs_b, ardat_nil, ardat_d, txts_l, txts_t, seq_l, seq_t, seq_f, seq_s, put_d, put_n, truth_str, truth_bl, truth_tup, truth_lst, sfit_str, sfit_bl, sfit_tup, sfit_lst, frzS, eqv_int, eqv_str, eqv_bl, plain_str, plain_int, plain_bl, plain_non, plain_tup, plain_lst, plains_nil, plains_cons, py_str, py_int, py_bl, py_non, py_tup, py_lst, pys_nil, pys_cons, dep_str, dep_int, dep_bl, dep_non, dep_tup, dep_lst, depA_nil, depA_cons, flat_str, flat_int, atI_0, atI_1, atI_2, strL_nil, strL_cons, cut_from1, cut_from2, gLen_s, gLen_l, gLen_t, gLen_f, gB_e, gI_e, gAdd_i, gAdd_s, gAdd_l, gAdd_t, gMul_i, gMul_l, gEq, gNe, gIn_s, gIn_l, gIn_t, gIsN_e, isN_non, isN_str, isN_tup, isN_int, isN_bl, isN_lst, gAll_e, gAny_e, gInt_i, gInt_b, gList_l, gList_t, gTuple_l, gTuple_t, gMin, gMax, gIx_l, gIx_t, gIx_f, gIx_s, gSl_l, gSl_f, gSl_t, gSl_s]
    refine ⟨x, rfl, h1, by omega, by omega, ?_⟩
    refine ⟨by rw [sizeLine_eq]; simp only [List.length_flatMap, List.map_take] at *; omega, ?_⟩
    rw [ef]
    simp
  · rintro δ m ⟨rfl, s2, rfl⟩
    simp [wSeq, wIfS_T, wIfS_F, wIfE_T, wIfE_F, wOrT, wAndT, wNot, wTest, wCall, wCons, wNil, wVar, wC, wChain, wRet, wRetN, wEnd, wOp, wSet, wLst, wTup, wFn, wIt, wNotV, wAndV, wOrA, wSl, wPart, wPart0, wSrc, wSrcPut, wJoin, wSplit, wPartn, wAsg, wgTup, wgCons, wgNil, wgN, wApp, wExt, wDrop, wNever, wFz, wSSet, wLSet, wPwW, wPwP, wPwInc, wMakePW, wMeth, wSetPop, wAugI, wRng1, wRng2, wTrue, wipeD, startD, poOf, and_assoc, gIsi_e, tyS_non, tyS_bl, tyS_int, tyS_str, tyS_tup, tyS_lst, tyS_dct, kitB_1, kitB_2, kitB_3, kitB_4, kitB_5, kitB_6, kitB_7, kitB_8, kitB_9, kitB_10, kitB_11, kitB_12, kitB_13, kitB_14, kitB_15, kitB_16, kitB_17, kitB_18, kitB_19, kitB_20, kitB_21, kitB_22, vw_d, vw_n, vw_b, lst_l, val_d, val_l, arg_d, arg_n, arg_b, dat_d, dat_n, dat_b, out_d, out_n, out_b, vwA_d, vwA_b, vwAs_nil, vwAs_d, vwAs_b, ardat_nil, ardat_d, txts_l, txts_t, seq_l, seq_t, seq_f, seq_s, put_d, put_n, truth_str, truth_bl, truth_tup, truth_lst, sfit_str, sfit_bl, sfit_tup, sfit_lst, frzS, eqv_int, eqv_str, eqv_bl, plain_str, plain_int, plain_bl, plain_non, plain_tup, plain_lst, plains_nil, plains_cons, py_str, py_int, py_bl, py_non, py_tup, py_lst, pys_nil, pys_cons, dep_str, dep_int, dep_bl, dep_non, dep_tup, dep_lst, depA_nil, depA_cons, flat_str, flat_int, atI_0, atI_1, atI_2, strL_nil, strL_cons, cut_from1, cut_from2, gLen_s, gLen_l, gLen_t, gLen_f, gB_e, gI_e, gAdd_i, gAdd_s, gAdd_l, gAdd_t, gMul_i, gMul_l, gEq, gNe, gIn_s, gIn_l, gIn_t, gIsN_e, isN_non, isN_str, isN_tup, isN_int, isN_bl, isN_lst, gAll_e, gAny_e, gInt_i, gInt_b, gList_l, gList_t, gTuple_l, gTuple_t, gMin, gMax, gIx_l, gIx_t, gIx_f, gIx_s, gSl_l, gSl_f, gSl_t, gSl_s]
    have := hR
    rw [leaves_eq p hx] at this
    simpa using this
def F_parts_of : FW := fun ds n R _ => ∃ p : Pl, ds = [p.d] ∧ p.fit ∧ R n (.n ((sset p.leaves).map .str))
theorem pu_parts_of : ∀ ds n R PX, ds.length = 1 → F_parts_of ds n R PX → w_parts_of (F_parts_from_left 40) (startD 1 ds) n (poOf R PXF0) := by
  rintro ds n R PX - ⟨p, rfl, hp, hR⟩
  unfold w_parts_of F_parts_from_left
  simp [wSeq, wIfS_T, wIfS_F, wIfE_T, wIfE_F, wOrT, wAndT, wNot, wTest, wCall, wCons, wNil, wVar, wC, wChain, wRet, wRetN, wEnd, wOp, wSet, wLst, wTup, wFn, wIt, wNotV, wAndV, wOrA, wSl, wPart, wPart0, wSrc, wSrcPut, wJoin, wSplit, wPartn, wAsg, wgTup, wgCons, wgNil, wgN, wApp, wExt, wDrop, wNever, wFz, wSSet, wLSet, wPwW, wPwP, wPwInc, wMakePW, wMeth, wSetPop, wAugI, wRng1, wRng2, wTrue, wipeD, startD, poOf, and_assoc, gIsi_e, tyS_non, tyS_bl, tyS_int, tyS_str, tyS_tup, tyS_lst, tyS_dct, kitB_1, kitB_2, kitB_3, kitB_4, kitB_5, kitB_6, kitB_7, kitB_8, kitB_9, kitB_10, kitB_11, kitB_12, kitB_13, kitB_14, kitB_15, kitB_16, kitB_17, kitB_18, kitB_19, kitB_20, kitB_21, kitB_22, vw_d, vw_n, vw_b, lst_l, val_d, val_l, arg_d, arg_n, arg_b, dat_d, dat_n, dat_b, out_d, out_n, out_b, vwA_d, vwA_b, vwAs_nil, vwAs_d, vwAs_b, ardat_nil, ardat_d, txts_l, txts_t, seq_l, seq_t, seq_f, seq_s, put_d, put_n, truth_str, truth_bl, truth_tup, truth_lst, sfit_str, sfit_bl, sfit_tup, sfit_lst, frzS, eqv_int, eqv_str, eqv_bl, plain_str, plain_int, plain_bl, plain_non, plain_tup, plain_lst, plains_nil, plains_cons, py_str, py_int, py_bl, py_non, py_tup, py_lst, pys_nil, pys_cons, dep_str, dep_int, dep_bl, dep_non, dep_tup, dep_lst, depA_nil, depA_cons, flat_str, flat_int, atI_0, atI_1, atI_2, strL_nil, strL_cons, cut_from1, cut_from2, gLen_s, gLen_l, gLen_t, gLen_f, gB_e, gI_e, gAdd_i, gAdd_s, gAdd_l, gAdd_t, gMul_i, gMul_l, gEq, gNe, gIn_s, gIn_l, gIn_t, gIsN_e, isN_non, isN_str, isN_tup, isN_int, isN_bl, isN_lst, gAll_e, gAny_e, gInt_i, gInt_b, gList_l, gList_t, gTuple_l, gTuple_t, gMin, gMax, gIx_l, gIx_t, gIx_f, gIx_s, gSl_l, gSl_f, gSl_t, gSl_s]
  have := leaves_le p
  have := hp.2
  refine ⟨p, rfl, hp.1, Nat.le_trans (deep_le p) hp.2, by omega, _, D.strL_map _, by unfold scanBound; omega, hR⟩
end DL
namespace DL
open PySem PySem.Spec PyProof.Rows L2
/-! ### the law's numbers -/
def F_source_raw : FW := fun ds n R _ => ∃ i, ds = [.int i] ∧ ∀ A B : Int, 0 ≤ A → 0 ≤ B → B < 2147483647 → R n (.n [.int A, .int B, .int 0])
theorem pu__law_source_of : ∀ ds n R PX, ds.length = 1 → F_source_raw ds n R PX → w__law_source_of (startD 1 ds) n (poOf R PXF0) := by
  rintro ds n R PX - ⟨i, rfl, hR⟩
  unfold w__law_source_of
  simp [wSeq, wIfS_T, wIfS_F, wIfE_T, wIfE_F, wOrT, wAndT, wNot, wTest, wCall, wCons, wNil, wVar, wC, wChain, wRet, wRetN, wEnd, wOp, wSet, wLst, wTup, wFn, wIt, wNotV, wAndV, wOrA, wSl, wPart, wPart0, wSrc, wSrcPut, wJoin, wSplit, wPartn, wAsg, wgTup, wgCons, wgNil, wgN, wApp, wExt, wDrop, wNever, wFz, wSSet, wLSet, wPwW, wPwP, wPwInc, wMakePW, wMeth, wSetPop, wAugI, wRng1, wRng2, wTrue, wipeD, startD, poOf, and_assoc, gIsi_e, tyS_non, tyS_bl, tyS_int, tyS_str, tyS_tup, tyS_lst, tyS_dct, kitB_1, kitB_2, kitB_3, kitB_4, kitB_5, kitB_6, kitB_7, kitB_8, kitB_9, kitB_10, kitB_11, kitB_12, kitB_13, kitB_14, kitB_15, kitB_16, kitB_17, kitB_18, kitB_19, kitB_20, kitB_21, kitB_22, vw_d, vw_n, vw_b, lst_l, val_d, val_l, arg_d, arg_n, arg_b, dat_d, dat_n, dat_b, out_d, out_n, out_b, vwA_d, vwA_b, vwAs_nil, vwAs_d, vwAs_b, ardat_nil, ardat_d, txts_l, txts_t, seq_l, seq_t, seq_f, seq_s, put_d, put_n, truth_str, truth_bl, truth_tup, truth_lst, sfit_str, sfit_bl, sfit_tup, sfit_lst, frzS, eqv_int, eqv_str, eqv_bl, plain_str, plain_int, plain_bl, plain_non, plain_tup, plain_lst, plains_nil, plains_cons, py_str, py_int, py_bl, py_non, py_tup, py_lst, pys_nil, pys_cons, dep_str, dep_int, dep_bl, dep_non, dep_tup, dep_lst, depA_nil, depA_cons, flat_str, flat_int, atI_0, atI_1, atI_2, strL_nil, strL_cons, cut_from1, cut_from2, gLen_s, gLen_l, gLen_t, gLen_f, gB_e, gI_e, gAdd_i, gAdd_s, gAdd_l, gAdd_t, gMul_i, gMul_l, gEq, gNe, gIn_s, gIn_l, gIn_t, gIsN_e, isN_non, isN_str, isN_tup, isN_int, isN_bl, isN_lst, gAll_e, gAny_e, gInt_i, gInt_b, gList_l, gList_t, gTuple_l, gTuple_t, gMin, gMax, gIx_l, gIx_t, gIx_f, gIx_s, gSl_l, gSl_f, gSl_t, gSl_s, sizeLine_eq]
  refine ⟨⟨by decide, by decide, by decide⟩, ?_, hR _ _ ?_ (by omega) (by omega)⟩
  · refine .inr ?_
    split <;> decide
  · split
    · omega
    · simp
def F__law_source_of : FW := fun ds n R _ => ∃ i, ds = [.int i] ∧ R n (.d .src)
theorem src_of_imp : ∀ ds n R PX, F__law_source_of ds n R PX → F_source_raw ds n (fun n' r => ∃ A B C : Int, r = .n [.int A, .int B, .int C] ∧ 0 ≤ A ∧ 0 ≤ B ∧ B < 2147483647 ∧ 0 ≤ C ∧ C ≤ n'.n ∧ R n' (.d .src)) PX := by
  rintro ds n R PX ⟨i, rfl, hR⟩
  exact ⟨i, rfl, fun A B h1 h2 h3 => ⟨A, B, 0, rfl, h1, h2, h3, by decide, by omega, hR⟩⟩
def F__law_next : FW := fun ds n R _ => ∃ m : Int, ds = [.src, .int m] ∧ 0 < m ∧ m < 1073741824 ∧ n.n ≤ 1000000000 ∧ ∀ i : Int, 0 ≤ i → i < m → R { n with n := n.n + 1 } (.d (.int i))
theorem prime_at (i : Int) (h0 : 0 ≤ i) (h1 : i < 7) : ∃ p : Int, atI [D.int 2147483647, D.int 2147483629, D.int 2147483587, D.int 2147483579, D.int 2147483563, D.int 2147483549, D.int 2147483543] i = some (.int p) ∧ 0 < p ∧ p ≤ 2147483647 := by
  have : i = 0 ∨ i = 1 ∨ i = 2 ∨ i = 3 ∨ i = 4 ∨ i = 5 ∨ i = 6 := by omega
  rcases this with rfl | rfl | rfl | rfl | rfl | rfl | rfl <;> exact ⟨_, by simp [atI, ixN]; rfl, by decide, by decide⟩
theorem pu__law_next : ∀ ds n R PX, ds.length = 2 → F__law_next ds n R PX → w__law_next (startD 5 ds) n (poOf R PXF0) := by
  rintro ds n R PX - ⟨m, rfl, hm, hm2, hn, hR⟩
  unfold w__law_next
  simp only [wSeq]
  refine wIfS_any (n' := n) (fun _ => True) (fun P h => ?_) (fun _ => ?_) (fun _ => ?_)
  · simp [wSeq, wIfS_T, wIfS_F, wIfE_T, wIfE_F, wOrT, wAndT, wNot, wTest, wCall, wCons, wNil, wVar, wC, wChain, wRet, wRetN, wEnd, wOp, wSet, wLst, wTup, wFn, wIt, wNotV, wAndV, wOrA, wSl, wPart, wPart0, wSrc, wSrcPut, wJoin, wSplit, wPartn, wAsg, wgTup, wgCons, wgNil, wgN, wApp, wExt, wDrop, wNever, wFz, wSSet, wLSet, wPwW, wPwP, wPwInc, wMakePW, wMeth, wSetPop, wAugI, wRng1, wRng2, wTrue, wipeD, startD, poOf, and_assoc, gIsi_e, tyS_non, tyS_bl, tyS_int, tyS_str, tyS_tup, tyS_lst, tyS_dct, kitB_1, kitB_2, kitB_3, kitB_4, kitB_5, kitB_6, kitB_7, kitB_8, kitB_9, kitB_10, kitB_11, kitB_12, kitB_13, kitB_14, kitB_15, kitB_16, kitB_17, kitB_18, kitB_19, kitB_20, kitB_21, kitB_22, vw_d, vw_n, vw_b, lst_l, val_d, val_l, arg_d, arg_n, arg_b, dat_d, dat_n, dat_b, out_d, out_n, out_b, vwA_d, vwA_b, vwAs_nil, vwAs_d, vwAs_b, ardat_nil, ardat_d, txts_l, txts_t, seq_l, seq_t, seq_f, seq_s, put_d, put_n, truth_str, truth_bl, truth_tup, truth_lst, sfit_str, sfit_bl, sfit_tup, sfit_lst, frzS, eqv_int, eqv_str, eqv_bl, plain_str, plain_int, plain_bl, plain_non, plain_tup, plain_lst, plains_nil, plains_cons, py_str, py_int, py_bl, py_non, py_tup, py_lst, pys_nil, pys_cons, dep_str, dep_int, dep_bl, dep_non, dep_tup, dep_lst, depA_nil, depA_cons, flat_str, flat_int, atI_0, atI_1, atI_2, strL_nil, strL_cons, cut_from1, cut_from2, gLen_s, gLen_l, gLen_t, gLen_f, gB_e, gI_e, gAdd_i, gAdd_s, gAdd_l, gAdd_t, gMul_i, gMul_l, gEq, gNe, gIn_s, gIn_l, gIn_t, gIsN_e, isN_non, isN_str, isN_tup, isN_int, isN_bl, isN_lst, gAll_e, gAny_e, gInt_i, gInt_b, gList_l, gList_t, gTuple_l, gTuple_t, gMin, gMax, gIx_l, gIx_t, gIx_f, gIx_s, gSl_l, gSl_f, gSl_t, gSl_s]
    intro i h0
    rcases Int.lt_or_le 0 i with g | g
    · exact .inr ⟨g, h _ trivial⟩
    · exact .inl ⟨g, h _ trivial⟩
  · simp [wSeq, wIfS_T, wIfS_F, wIfE_T, wIfE_F, wOrT, wAndT, wNot, wTest, wCall, wCons, wNil, wVar, wC, wChain, wRet, wRetN, wEnd, wOp, wSet, wLst, wTup, wFn, wIt, wNotV, wAndV, wOrA, wSl, wPart, wPart0, wSrc, wSrcPut, wJoin, wSplit, wPartn, wAsg, wgTup, wgCons, wgNil, wgN, wApp, wExt, wDrop, wNever, wFz, wSSet, wLSet, wPwW, wPwP, wPwInc, wMakePW, wMeth, wSetPop, wAugI, wRng1, wRng2, wTrue, wipeD, startD, poOf, and_assoc, gIsi_e, tyS_non, tyS_bl, tyS_int, tyS_str, tyS_tup, tyS_lst, tyS_dct, kitB_1, kitB_2, kitB_3, kitB_4, kitB_5, kitB_6, kitB_7, kitB_8, kitB_9, kitB_10, kitB_11, kitB_12, kitB_13, kitB_14, kitB_15, kitB_16, kitB_17, kitB_18, kitB_19, kitB_20, kitB_21, kitB_22, vw_d, vw_n, vw_b, lst_l, val_d, val_l, arg_d, arg_n, arg_b, dat_d, dat_n, dat_b, out_d, out_n, out_b, vwA_d, vwA_b, vwAs_nil, vwAs_d, vwAs_b, ardat_nil, ardat_d, txts_l, txts_t, seq_l, seq_t, seq_f, seq_s, put_d, put_n, truth_str, truth_bl, truth_tup, truth_lst, sfit_str, sfit_bl, sfit_tup, sfit_lst, frzS, eqv_int, eqv_str, eqv_bl, plain_str, plain_int, plain_bl, plain_non, plain_tup, plain_lst, plains_nil, plains_cons, py_str, py_int, py_bl, py_non, py_tup, py_lst, pys_nil, pys_cons, dep_str, dep_int, dep_bl, dep_non, dep_tup, dep_lst, depA_nil, depA_cons, flat_str, flat_int, atI_0, atI_1, atI_2, strL_nil, strL_cons, cut_from1, cut_from2, gLen_s, gLen_l, gLen_t, gLen_f, gB_e, gI_e, gAdd_i, gAdd_s, gAdd_l, gAdd_t, gMul_i, gMul_l, gEq, gNe, gIn_s, gIn_l, gIn_t, gIsN_e, isN_non, isN_str, isN_tup, isN_int, isN_bl, isN_lst, gAll_e, gAny_e, gInt_i, gInt_b, gList_l, gList_t, gTuple_l, gTuple_t, gMin, gMax, gIx_l, gIx_t, gIx_f, gIx_s, gSl_l, gSl_f, gSl_t, gSl_s, CDiv]
    intro A hA
    exact ⟨hm, fun B hB => ⟨hm, hm2, Int.ediv_nonneg hB (by omega), hR _ (Int.emod_nonneg _ (by omega)) (Int.emod_lt_of_pos _ hm)⟩⟩
  · simp only [wEnd]
    simp [wSeq, wIfS_T, wIfS_F, wIfE_T, wIfE_F, wOrT, wAndT, wNot, wTest, wCall, wCons, wNil, wVar, wC, wChain, wRet, wRetN, wEnd, wOp, wSet, wLst, wTup, wFn, wIt, wNotV, wAndV, wOrA, wSl, wPart, wPart0, wSrc, wSrcPut, wJoin, wSplit, wPartn, wAsg, wgTup, wgCons, wgNil, wgN, wApp, wExt, wDrop, wNever, wFz, wSSet, wLSet, wPwW, wPwP, wPwInc, wMakePW, wMeth, wSetPop, wAugI, wRng1, wRng2, wTrue, wipeD, startD, poOf, and_assoc, gIsi_e, tyS_non, tyS_bl, tyS_int, tyS_str, tyS_tup, tyS_lst, tyS_dct, kitB_1, kitB_2, kitB_3, kitB_4, kitB_5, kitB_6, kitB_7, kitB_8, kitB_9, kitB_10, kitB_11, kitB_12, kitB_13, kitB_14, kitB_15, kitB_16, kitB_17, kitB_18, kitB_19, kitB_20, kitB_21, kitB_22, vw_d, vw_n, vw_b, lst_l, val_d, val_l, arg_d, arg_n, arg_b, dat_d, dat_n, dat_b, out_d, out_n, out_b, vwA_d, vwA_b, vwAs_nil, vwAs_d, vwAs_b, ardat_nil, ardat_d, txts_l, txts_t, seq_l, seq_t, seq_f, seq_s, put_d, put_n, truth_str, truth_bl, truth_tup, truth_lst, sfit_str, sfit_bl, sfit_tup, sfit_lst, frzS, eqv_int, eqv_str, eqv_bl, plain_str, plain_int, plain_bl, plain_non, plain_tup, plain_lst, plains_nil, plains_cons, py_str, py_int, py_bl, py_non, py_tup, py_lst, pys_nil, pys_cons, dep_str, dep_int, dep_bl, dep_non, dep_tup, dep_lst, depA_nil, depA_cons, flat_str, flat_int, atI_0, atI_1, atI_2, strL_nil, strL_cons, cut_from1, cut_from2, gLen_s, gLen_l, gLen_t, gLen_f, gB_e, gI_e, gAdd_i, gAdd_s, gAdd_l, gAdd_t, gMul_i, gMul_l, gEq, gNe, gIn_s, gIn_l, gIn_t, gIsN_e, isN_non, isN_str, isN_tup, isN_int, isN_bl, isN_lst, gAll_e, gAny_e, gInt_i, gInt_b, gList_l, gList_t, gTuple_l, gTuple_t, gMin, gMax, gIx_l, gIx_t, gIx_f, gIx_s, gSl_l, gSl_f, gSl_t, gSl_s, sizeLine_eq]
    intro c1 h1 h2
    refine ⟨by omega, h2, fun c2 h3 h4 => ?_⟩
    obtain ⟨p, e1, p1, p2⟩ := prime_at (c2 % 7) (by omega) (by omega)
    refine ⟨_, e1, fun B hB1 hB2 c3 h5 h6 => ?_⟩
    simp [wSeq, wIfS_T, wIfS_F, wIfE_T, wIfE_F, wOrT, wAndT, wNot, wTest, wCall, wCons, wNil, wVar, wC, wChain, wRet, wRetN, wEnd, wOp, wSet, wLst, wTup, wFn, wIt, wNotV, wAndV, wOrA, wSl, wPart, wPart0, wSrc, wSrcPut, wJoin, wSplit, wPartn, wAsg, wgTup, wgCons, wgNil, wgN, wApp, wExt, wDrop, wNever, wFz, wSSet, wLSet, wPwW, wPwP, wPwInc, wMakePW, wMeth, wSetPop, wAugI, wRng1, wRng2, wTrue, wipeD, startD, poOf, and_assoc, gIsi_e, tyS_non, tyS_bl, tyS_int, tyS_str, tyS_tup, tyS_lst, tyS_dct, kitB_1, kitB_2, kitB_3, kitB_4, kitB_5, kitB_6, kitB_7, kitB_8, kitB_9, kitB_10, kitB_11, kitB_12, kitB_13, kitB_14, kitB_15, kitB_16, kitB_17, kitB_18, kitB_19, kitB_20, kitB_21, kitB_22, vw_d, vw_n, vw_b, lst_l, val_d, val_l, arg_d, arg_n, arg_b, dat_d, dat_n, dat_b, out_d, out_n, out_b, vwA_d, vwA_b, vwAs_nil, vwAs_d, vwAs_b, ardat_nil, ardat_d, txts_l, txts_t, seq_l, seq_t, seq_f, seq_s, put_d, put_n, truth_str, truth_bl, truth_tup, truth_lst, sfit_str, sfit_bl, sfit_tup, sfit_lst, frzS, eqv_int, eqv_str, eqv_bl, plain_str, plain_int, plain_bl, plain_non, plain_tup, plain_lst, plains_nil, plains_cons, py_str, py_int, py_bl, py_non, py_tup, py_lst, pys_nil, pys_cons, dep_str, dep_int, dep_bl, dep_non, dep_tup, dep_lst, depA_nil, depA_cons, flat_str, flat_int, atI_0, atI_1, atI_2, strL_nil, strL_cons, cut_from1, cut_from2, gLen_s, gLen_l, gLen_t, gLen_f, gB_e, gI_e, gAdd_i, gAdd_s, gAdd_l, gAdd_t, gMul_i, gMul_l, gEq, gNe, gIn_s, gIn_l, gIn_t, gIsN_e, isN_non, isN_str, isN_tup, isN_int, isN_bl, isN_lst, gAll_e, gAny_e, gInt_i, gInt_b, gList_l, gList_t, gTuple_l, gTuple_t, gMin, gMax, gIx_l, gIx_t, gIx_f, gIx_s, gSl_l, gSl_f, gSl_t, gSl_s, CMul, CPow, CDiv]
    refine ⟨by omega, p1, fun c4 h7 h8 => ?_⟩
    have f1 := Int.emod_lt_of_pos ((B + 7919 * c3 + 1) ^ 5) p1
    have f0 := Int.emod_nonneg ((B + 7919 * c3 + 1) ^ 5) (by omega : p ≠ 0)
    exact ⟨.inl ⟨by omega, by omega⟩, p1, hm, hR _ (Int.emod_nonneg _ (by omega)) (Int.emod_lt_of_pos _ hm)⟩
/-! ### words, names, plans of numbers -/
/-- a draw from some: n of them at most -/
def F__law_one : FW := fun ds n R _ => ∃ xs : List D, ds = [.src, .lst xs] ∧ 0 < xs.length ∧ xs.length < 1073741824 ∧ n.n ≤ 1000000000 ∧ ∀ x ∈ xs, R { n with n := n.n + 1 } (.d x)
theorem pu__law_one : ∀ ds n R PX, ds.length = 2 → F__law_one ds n R PX → w__law_one F__law_next (startD 2 ds) n (poOf R PXF0) := by
  rintro ds n R PX - ⟨xs, rfl, h0, h1, hn, hR⟩
  unfold w__law_one F__law_next
  simp [wSeq, wIfS_T, wIfS_F, wIfE_T, wIfE_F, wOrT, wAndT, wNot, wTest, wCall, wCons, wNil, wVar, wC, wChain, wRet, wRetN, wEnd, wOp, wSet, wLst, wTup, wFn, wIt, wNotV, wAndV, wOrA, wSl, wPart, wPart0, wSrc, wSrcPut, wJoin, wSplit, wPartn, wAsg, wgTup, wgCons, wgNil, wgN, wApp, wExt, wDrop, wNever, wFz, wSSet, wLSet, wPwW, wPwP, wPwInc, wMakePW, wMeth, wSetPop, wAugI, wRng1, wRng2, wTrue, wipeD, startD, poOf, and_assoc, gIsi_e, tyS_non, tyS_bl, tyS_int, tyS_str, tyS_tup, tyS_lst, tyS_dct, kitB_1, kitB_2, kitB_3, kitB_4, kitB_5, kitB_6, kitB_7, kitB_8, kitB_9, kitB_10, kitB_11, kitB_12, kitB_13, kitB_14, kitB_15, kitB_16, kitB_17, kitB_18, kitB_19, kitB_20, kitB_21, kitB_22, vw_d, vw_n, vw_b, lst_l, val_d, val_l, arg_d, arg_n, arg_b, dat_d, dat_n, dat_b, out_d, out_n, out_b, vwA_d, vwA_b, vwAs_nil, vwAs_d, vwAs_b, ardat_nil, ardat_d, txts_l, txts_t, seq_l, seq_t, seq_f, seq_s, put_d, put_n, truth_str, truth_bl, truth_tup, truth_lst, sfit_str, sfit_bl, sfit_tup, sfit_lst, frzS, eqv_int, eqv_str, eqv_bl, plain_str, plain_int, plain_bl, plain_non, plain_tup, plain_lst, plains_nil, plains_cons, py_str, py_int, py_bl, py_non, py_tup, py_lst, pys_nil, pys_cons, dep_str, dep_int, dep_bl, dep_non, dep_tup, dep_lst, depA_nil, depA_cons, flat_str, flat_int, atI_0, atI_1, atI_2, strL_nil, strL_cons, cut_from1, cut_from2, gLen_s, gLen_l, gLen_t, gLen_f, gB_e, gI_e, gAdd_i, gAdd_s, gAdd_l, gAdd_t, gMul_i, gMul_l, gEq, gNe, gIn_s, gIn_l, gIn_t, gIsN_e, isN_non, isN_str, isN_tup, isN_int, isN_bl, isN_lst, gAll_e, gAny_e, gInt_i, gInt_b, gList_l, gList_t, gTuple_l, gTuple_t, gMin, gMax, gIx_l, gIx_t, gIx_f, gIx_s, gSl_l, gSl_f, gSl_t, gSl_s]
  refine ⟨h0, by omega, hn, fun i h2 h3 => ?_⟩
  obtain ⟨z, e1, e2⟩ := atI_of (xs := xs) h2 h3
  exact ⟨z, e1, hR z (List.mem_of_getElem? e2)⟩
def later (n n' : Gh) (k : Nat) : Prop := n'.n ≤ n.n + k ∧ n.n ≤ n'.n
def F__law_word : FW := fun ds n R _ => ds = [.src] ∧ n.n ≤ 900000000 ∧ ∀ n' x, later n n' 12 → isPn x = true → R n' (.d (.str x))
theorem fixed_pn : ∀ x ∈ [q "a", q "b", q "ab", q "stops", q "parts", q "zzzzzzzz", q "picks", q "wholes", q "aa", q "hides"], isPn x = true := by decide +kernel
theorem rng_len (lo : Int) (m : Nat) : (rngD lo m).length = m := by unfold rngD; simp
theorem mem_abc_q {i : Int} (h0 : 0 ≤ i) (h1 : i < 26) : ∃ c, atI (q "abcdefghijklmnopqrstuvwxyz") i = some c ∧ c ∈ abc := by
  have hl : (q "abcdefghijklmnopqrstuvwxyz").length = 26 := by decide +kernel
  obtain ⟨z, e1, e2⟩ := atI_of (xs := q "abcdefghijklmnopqrstuvwxyz") h0 (by rw [hl]; omega)
  exact ⟨z, e1, List.mem_of_getElem? e2⟩
theorem isPn_end {x : List Nat} {c : Nat} (hx : x.length ≤ 7) (ha : ∀ d ∈ x, d ∈ abc) (hc : c = 109 ∨ c = 120 ∨ c = 122) : isPn (x ++ [c]) = true := by
  have hca : c ∈ abc := mem_abc.mpr (by omega)
  have h1 : isNm (x ++ [c]) = true := by
    unfold isNm
    simp only [List.length_append, List.length_singleton, Bool.and_eq_true, decide_eq_true_eq, List.all_eq_true]
    refine ⟨by omega, fun d hd => ?_⟩
    rcases List.mem_append.mp hd with hd | hd
    · exact ha d hd
    · rw [List.mem_singleton.mp hd]; exact hca
  unfold isPn
  rw [h1, Bool.true_and, Bool.not_eq_true']
  rw [List.any_eq_false]
  intro y hy
  have hlast : ∀ y ∈ WORDS, ∀ d, y.getLast? = some d → d ≠ 109 ∧ d ≠ 120 ∧ d ≠ 122 := by
    unfold WORDS
    rw [q_stop, q_part, q_ahead, q_pick, q_offer, q_beside, q_hide, q_rename]
    intro y hy d hd
    simp only [List.mem_cons, List.not_mem_nil, or_false] at hy
    rcases hy with rfl | rfl | rfl | rfl | rfl | rfl | rfl | rfl <;> (simp at hd; omega)
  intro e
  have e := eq_of_beq e
  subst e
  have := hlast _ hy c (by simp)
  omega
theorem pu__law_word : ∀ ds n R PX, ds.length = 1 → F__law_word ds n R PX → w__law_word F__law_next F__law_one (startD 3 ds) n (poOf R PXF0) := by
  rintro ds n R PX - ⟨rfl, hn, hR⟩
  unfold w__law_word
  simp only [wSeq]
  refine wIfS_any (n' := { n with n := n.n + 1 }) (fun _ => True) (fun P h => ?_) (fun _ => ?_) (fun _ => ?_)
  · unfold F__law_next
    simp [wSeq, wIfS_T, wIfS_F, wIfE_T, wIfE_F, wOrT, wAndT, wNot, wTest, wCall, wCons, wNil, wVar, wC, wChain, wRet, wRetN, wEnd, wOp, wSet, wLst, wTup, wFn, wIt, wNotV, wAndV, wOrA, wSl, wPart, wPart0, wSrc, wSrcPut, wJoin, wSplit, wPartn, wAsg, wgTup, wgCons, wgNil, wgN, wApp, wExt, wDrop, wNever, wFz, wSSet, wLSet, wPwW, wPwP, wPwInc, wMakePW, wMeth, wSetPop, wAugI, wRng1, wRng2, wTrue, wipeD, startD, poOf, and_assoc, gIsi_e, tyS_non, tyS_bl, tyS_int, tyS_str, tyS_tup, tyS_lst, tyS_dct, kitB_1, kitB_2, kitB_3, kitB_4, kitB_5, kitB_6, kitB_7, kitB_8, kitB_9, kitB_10, kitB_11, kitB_12, kitB_13, kitB_14, kitB_15, kitB_16, kitB_17, kitB_18, kitB_19, kitB_20, kitB_21, kitB_22, vw_d, vw_n, vw_b, lst_l, val_d, val_l, arg_d, arg_n, arg_b, dat_d, dat_n, dat_b, out_d, out_n, out_b, vwA_d, vwA_b, vwAs_nil, vwAs_d, vwAs_b, ardat_nil, ardat_d, txts_l, txts_t, seq_l, seq_t, seq_f, seq_s, put_d, put_n, truth_str, truth_bl, truth_tup, truth_lst, sfit_str, sfit_bl, sfit_tup, sfit_lst, frzS, eqv_int, eqv_str, eqv_bl, plain_str, plain_int, plain_bl, plain_non, plain_tup, plain_lst, plains_nil, plains_cons, py_str, py_int, py_bl, py_non, py_tup, py_lst, pys_nil, pys_cons, dep_str, dep_int, dep_bl, dep_non, dep_tup, dep_lst, depA_nil, depA_cons, flat_str, flat_int, atI_0, atI_1, atI_2, strL_nil, strL_cons, cut_from1, cut_from2, gLen_s, gLen_l, gLen_t, gLen_f, gB_e, gI_e, gAdd_i, gAdd_s, gAdd_l, gAdd_t, gMul_i, gMul_l, gEq, gNe, gIn_s, gIn_l, gIn_t, gIsN_e, isN_non, isN_str, isN_tup, isN_int, isN_bl, isN_lst, gAll_e, gAny_e, gInt_i, gInt_b, gList_l, gList_t, gTuple_l, gTuple_t, gMin, gMax, gIx_l, gIx_t, gIx_f, gIx_s, gSl_l, gSl_f, gSl_t, gSl_s]
    exact ⟨by omega, fun i h0 h1 => h _ trivial⟩
  · unfold F__law_one
    simp [wSeq, wIfS_T, wIfS_F, wIfE_T, wIfE_F, wOrT, wAndT, wNot, wTest, wCall, wCons, wNil, wVar, wC, wChain, wRet, wRetN, wEnd, wOp, wSet, wLst, wTup, wFn, wIt, wNotV, wAndV, wOrA, wSl, wPart, wPart0, wSrc, wSrcPut, wJoin, wSplit, wPartn, wAsg, wgTup, wgCons, wgNil, wgN, wApp, wExt, wDrop, wNever, wFz, wSSet, wLSet, wPwW, wPwP, wPwInc, wMakePW, wMeth, wSetPop, wAugI, wRng1, wRng2, wTrue, wipeD, startD, poOf, and_assoc, gIsi_e, tyS_non, tyS_bl, tyS_int, tyS_str, tyS_tup, tyS_lst, tyS_dct, kitB_1, kitB_2, kitB_3, kitB_4, kitB_5, kitB_6, kitB_7, kitB_8, kitB_9, kitB_10, kitB_11, kitB_12, kitB_13, kitB_14, kitB_15, kitB_16, kitB_17, kitB_18, kitB_19, kitB_20, kitB_21, kitB_22, vw_d, vw_n, vw_b, lst_l, val_d, val_l, arg_d, arg_n, arg_b, dat_d, dat_n, dat_b, out_d, out_n, out_b, vwA_d, vwA_b, vwAs_nil, vwAs_d, vwAs_b, ardat_nil, ardat_d, txts_l, txts_t, seq_l, seq_t, seq_f, seq_s, put_d, put_n, truth_str, truth_bl, truth_tup, truth_lst, sfit_str, sfit_bl, sfit_tup, sfit_lst, frzS, eqv_int, eqv_str, eqv_bl, plain_str, plain_int, plain_bl, plain_non, plain_tup, plain_lst, plains_nil, plains_cons, py_str, py_int, py_bl, py_non, py_tup, py_lst, pys_nil, pys_cons, dep_str, dep_int, dep_bl, dep_non, dep_tup, dep_lst, depA_nil, depA_cons, flat_str, flat_int, atI_0, atI_1, atI_2, strL_nil, strL_cons, cut_from1, cut_from2, gLen_s, gLen_l, gLen_t, gLen_f, gB_e, gI_e, gAdd_i, gAdd_s, gAdd_l, gAdd_t, gMul_i, gMul_l, gEq, gNe, gIn_s, gIn_l, gIn_t, gIsN_e, isN_non, isN_str, isN_tup, isN_int, isN_bl, isN_lst, gAll_e, gAny_e, gInt_i, gInt_b, gList_l, gList_t, gTuple_l, gTuple_t, gMin, gMax, gIx_l, gIx_t, gIx_f, gIx_s, gSl_l, gSl_f, gSl_t, gSl_s, sizeLine_eq]
    have hf := fixed_pn
    simp only [List.mem_cons, List.not_mem_nil, or_false, forall_eq_or_imp, forall_eq] at hf
    obtain ⟨f1, f2, f3, f4, f5, f6, f7, f8, f9, f10⟩ := hf
    have lt : later n { n := n.n + 1 + 1, at_ := n.at_, pl := n.pl } 12 := ⟨by (first | omega | (simp; done) | (simp; omega)), by (first | omega | (simp; done) | (simp; omega))⟩
    exact ⟨by omega, hR _ _ lt f1, hR _ _ lt f2, hR _ _ lt f3, hR _ _ lt f4, hR _ _ lt f5, hR _ _ lt f6, hR _ _ lt f7, hR _ _ lt f8, hR _ _ lt f9, hR _ _ lt f10⟩
  · simp only [wEnd]
    refine wSet_i (n' := { n with n := n.n + 1 }) (r := .d (.str [])) (fun P h => by have e : q "" = [] := by decide +kernel
                                                                                     simp [wSeq, wIfS_T, wIfS_F, wIfE_T, wIfE_F, wOrT, wAndT, wNot, wTest, wCall, wCons, wNil, wVar, wC, wChain, wRet, wRetN, wEnd, wOp, wSet, wLst, wTup, wFn, wIt, wNotV, wAndV, wOrA, wSl, wPart, wPart0, wSrc, wSrcPut, wJoin, wSplit, wPartn, wAsg, wgTup, wgCons, wgNil, wgN, wApp, wExt, wDrop, wNever, wFz, wSSet, wLSet, wPwW, wPwP, wPwInc, wMakePW, wMeth, wSetPop, wAugI, wRng1, wRng2, wTrue, wipeD, startD, poOf, and_assoc, gIsi_e, tyS_non, tyS_bl, tyS_int, tyS_str, tyS_tup, tyS_lst, tyS_dct, kitB_1, kitB_2, kitB_3, kitB_4, kitB_5, kitB_6, kitB_7, kitB_8, kitB_9, kitB_10, kitB_11, kitB_12, kitB_13, kitB_14, kitB_15, kitB_16, kitB_17, kitB_18, kitB_19, kitB_20, kitB_21, kitB_22, vw_d, vw_n, vw_b, lst_l, val_d, val_l, arg_d, arg_n, arg_b, dat_d, dat_n, dat_b, out_d, out_n, out_b, vwA_d, vwA_b, vwAs_nil, vwAs_d, vwAs_b, ardat_nil, ardat_d, txts_l, txts_t, seq_l, seq_t, seq_f, seq_s, put_d, put_n, truth_str, truth_bl, truth_tup, truth_lst, sfit_str, sfit_bl, sfit_tup, sfit_lst, frzS, eqv_int, eqv_str, eqv_bl, plain_str, plain_int, plain_bl, plain_non, plain_tup, plain_lst, plains_nil, plains_cons, py_str, py_int, py_bl, py_non, py_tup, py_lst, pys_nil, pys_cons, dep_str, dep_int, dep_bl, dep_non, dep_tup, dep_lst, depA_nil, depA_cons, flat_str, flat_int, atI_0, atI_1, atI_2, strL_nil, strL_cons, cut_from1, cut_from2, gLen_s, gLen_l, gLen_t, gLen_f, gB_e, gI_e, gAdd_i, gAdd_s, gAdd_l, gAdd_t, gMul_i, gMul_l, gEq, gNe, gIn_s, gIn_l, gIn_t, gIsN_e, isN_non, isN_str, isN_tup, isN_int, isN_bl, isN_lst, gAll_e, gAny_e, gInt_i, gInt_b, gList_l, gList_t, gTuple_l, gTuple_t, gMin, gMax, gIx_l, gIx_t, gIx_f, gIx_s, gSl_l, gSl_f, gSl_t, gSl_s, e]; exact h) (put_d _ _ _) ?_
    dsimp only
    refine wFor_m (fun n1 ds => n1.n = n.n + 3 ∧ ∃ j : Nat, j ≤ 7 ∧ ds = rngD 0 j) (fun P' h => ?_) ?_
    · unfold F__law_one F__law_next
      simp [wSeq, wIfS_T, wIfS_F, wIfE_T, wIfE_F, wOrT, wAndT, wNot, wTest, wCall, wCons, wNil, wVar, wC, wChain, wRet, wRetN, wEnd, wOp, wSet, wLst, wTup, wFn, wIt, wNotV, wAndV, wOrA, wSl, wPart, wPart0, wSrc, wSrcPut, wJoin, wSplit, wPartn, wAsg, wgTup, wgCons, wgNil, wgN, wApp, wExt, wDrop, wNever, wFz, wSSet, wLSet, wPwW, wPwP, wPwInc, wMakePW, wMeth, wSetPop, wAugI, wRng1, wRng2, wTrue, wipeD, startD, poOf, and_assoc, gIsi_e, tyS_non, tyS_bl, tyS_int, tyS_str, tyS_tup, tyS_lst, tyS_dct, kitB_1, kitB_2, kitB_3, kitB_4, kitB_5, kitB_6, kitB_7, kitB_8, kitB_9, kitB_10, kitB_11, kitB_12, kitB_13, kitB_14, kitB_15, kitB_16, kitB_17, kitB_18, kitB_19, kitB_20, kitB_21, kitB_22, vw_d, vw_n, vw_b, lst_l, val_d, val_l, arg_d, arg_n, arg_b, dat_d, dat_n, dat_b, out_d, out_n, out_b, vwA_d, vwA_b, vwAs_nil, vwAs_d, vwAs_b, ardat_nil, ardat_d, txts_l, txts_t, seq_l, seq_t, seq_f, seq_s, put_d, put_n, truth_str, truth_bl, truth_tup, truth_lst, sfit_str, sfit_bl, sfit_tup, sfit_lst, frzS, eqv_int, eqv_str, eqv_bl, plain_str, plain_int, plain_bl, plain_non, plain_tup, plain_lst, plains_nil, plains_cons, py_str, py_int, py_bl, py_non, py_tup, py_lst, pys_nil, pys_cons, dep_str, dep_int, dep_bl, dep_non, dep_tup, dep_lst, depA_nil, depA_cons, flat_str, flat_int, atI_0, atI_1, atI_2, strL_nil, strL_cons, cut_from1, cut_from2, gLen_s, gLen_l, gLen_t, gLen_f, gB_e, gI_e, gAdd_i, gAdd_s, gAdd_l, gAdd_t, gMul_i, gMul_l, gEq, gNe, gIn_s, gIn_l, gIn_t, gIsN_e, isN_non, isN_str, isN_tup, isN_int, isN_bl, isN_lst, gAll_e, gAny_e, gInt_i, gInt_b, gList_l, gList_t, gTuple_l, gTuple_t, gMin, gMax, gIx_l, gIx_t, gIx_f, gIx_s, gSl_l, gSl_f, gSl_t, gSl_s, sizeLine_eq]
      refine ⟨by omega, fun c h0 h1 => ⟨by omega, ?_, ?_, ?_⟩⟩
      · exact h _ _ ⟨by (first | omega | (simp; done) | (simp; omega)), 0, by omega, rfl⟩
      · exact h _ _ ⟨by (first | omega | (simp; done) | (simp; omega)), 1, by omega, rfl⟩
      · exact ⟨by omega, by omega, h _ _ ⟨by (first | omega | (simp; done) | (simp; omega)), c.toNat, by omega, rfl⟩⟩
    · rintro n1 ds ⟨hn1, j, hj, rfl⟩
      refine ⟨fun i δ m => m.n = n.n + 3 + i ∧ ∃ x s2, δ = [.d .src, .d (.str x), s2] ∧ x.length = i ∧ ∀ d ∈ x, d ∈ abc, ⟨by omega, [], .u, by simp [startD], rfl, by simp⟩, ?_, ?_⟩
      · rintro i δ m d hd ⟨hm, x, s2, rfl, hx, ha⟩
        have hi := (List.getElem?_eq_some_iff.mp hd).1
        rw [rng_len] at hi
        unfold F__law_next
        simp [wSeq, wIfS_T, wIfS_F, wIfE_T, wIfE_F, wOrT, wAndT, wNot, wTest, wCall, wCons, wNil, wVar, wC, wChain, wRet, wRetN, wEnd, wOp, wSet, wLst, wTup, wFn, wIt, wNotV, wAndV, wOrA, wSl, wPart, wPart0, wSrc, wSrcPut, wJoin, wSplit, wPartn, wAsg, wgTup, wgCons, wgNil, wgN, wApp, wExt, wDrop, wNever, wFz, wSSet, wLSet, wPwW, wPwP, wPwInc, wMakePW, wMeth, wSetPop, wAugI, wRng1, wRng2, wTrue, wipeD, startD, poOf, and_assoc, gIsi_e, tyS_non, tyS_bl, tyS_int, tyS_str, tyS_tup, tyS_lst, tyS_dct, kitB_1, kitB_2, kitB_3, kitB_4, kitB_5, kitB_6, kitB_7, kitB_8, kitB_9, kitB_10, kitB_11, kitB_12, kitB_13, kitB_14, kitB_15, kitB_16, kitB_17, kitB_18, kitB_19, kitB_20, kitB_21, kitB_22, vw_d, vw_n, vw_b, lst_l, val_d, val_l, arg_d, arg_n, arg_b, dat_d, dat_n, dat_b, out_d, out_n, out_b, vwA_d, vwA_b, vwAs_nil, vwAs_d, vwAs_b, ardat_nil, ardat_d, txts_l, txts_t, seq_l, seq_t, seq_f, seq_s, put_d, put_n, truth_str, truth_bl, truth_tup, truth_lst, sfit_str, sfit_bl, sfit_tup, sfit_lst, frzS, eqv_int, eqv_str, eqv_bl, plain_str, plain_int, plain_bl, plain_non, plain_tup, plain_lst, plains_nil, plains_cons, py_str, py_int, py_bl, py_non, py_tup, py_lst, pys_nil, pys_cons, dep_str, dep_int, dep_bl, dep_non, dep_tup, dep_lst, depA_nil, depA_cons, flat_str, flat_int, atI_0, atI_1, atI_2, strL_nil, strL_cons, cut_from1, cut_from2, gLen_s, gLen_l, gLen_t, gLen_f, gB_e, gI_e, gAdd_i, gAdd_s, gAdd_l, gAdd_t, gMul_i, gMul_l, gEq, gNe, gIn_s, gIn_l, gIn_t, gIsN_e, isN_non, isN_str, isN_tup, isN_int, isN_bl, isN_lst, gAll_e, gAny_e, gInt_i, gInt_b, gList_l, gList_t, gTuple_l, gTuple_t, gMin, gMax, gIx_l, gIx_t, gIx_f, gIx_s, gSl_l, gSl_f, gSl_t, gSl_s, sizeLine_eq]
        have hl : (q "abcdefghijklmnopqrstuvwxyz").length = 26 := by decide +kernel
        refine ⟨by omega, fun c h0 h1 => ⟨by omega, ?_⟩⟩
        obtain ⟨z, e1, e2⟩ := mem_abc_q h0 h1
        refine ⟨z, e1, by omega, by omega, by omega, ?_⟩
        intro d hd
        rcases hd with hd | rfl
        · exact ha d hd
        · exact e2
      · rintro δ m ⟨hm, x, s2, rfl, hx, ha⟩
        rw [rng_len] at hm hx
        unfold F__law_one
        have e1 : q "m" = [109] := by decide +kernel
        have e2 : q "x" = [120] := by decide +kernel
        have e3 : q "z" = [122] := by decide +kernel
        simp [wSeq, wIfS_T, wIfS_F, wIfE_T, wIfE_F, wOrT, wAndT, wNot, wTest, wCall, wCons, wNil, wVar, wC, wChain, wRet, wRetN, wEnd, wOp, wSet, wLst, wTup, wFn, wIt, wNotV, wAndV, wOrA, wSl, wPart, wPart0, wSrc, wSrcPut, wJoin, wSplit, wPartn, wAsg, wgTup, wgCons, wgNil, wgN, wApp, wExt, wDrop, wNever, wFz, wSSet, wLSet, wPwW, wPwP, wPwInc, wMakePW, wMeth, wSetPop, wAugI, wRng1, wRng2, wTrue, wipeD, startD, poOf, and_assoc, gIsi_e, tyS_non, tyS_bl, tyS_int, tyS_str, tyS_tup, tyS_lst, tyS_dct, kitB_1, kitB_2, kitB_3, kitB_4, kitB_5, kitB_6, kitB_7, kitB_8, kitB_9, kitB_10, kitB_11, kitB_12, kitB_13, kitB_14, kitB_15, kitB_16, kitB_17, kitB_18, kitB_19, kitB_20, kitB_21, kitB_22, vw_d, vw_n, vw_b, lst_l, val_d, val_l, arg_d, arg_n, arg_b, dat_d, dat_n, dat_b, out_d, out_n, out_b, vwA_d, vwA_b, vwAs_nil, vwAs_d, vwAs_b, ardat_nil, ardat_d, txts_l, txts_t, seq_l, seq_t, seq_f, seq_s, put_d, put_n, truth_str, truth_bl, truth_tup, truth_lst, sfit_str, sfit_bl, sfit_tup, sfit_lst, frzS, eqv_int, eqv_str, eqv_bl, plain_str, plain_int, plain_bl, plain_non, plain_tup, plain_lst, plains_nil, plains_cons, py_str, py_int, py_bl, py_non, py_tup, py_lst, pys_nil, pys_cons, dep_str, dep_int, dep_bl, dep_non, dep_tup, dep_lst, depA_nil, depA_cons, flat_str, flat_int, atI_0, atI_1, atI_2, strL_nil, strL_cons, cut_from1, cut_from2, gLen_s, gLen_l, gLen_t, gLen_f, gB_e, gI_e, gAdd_i, gAdd_s, gAdd_l, gAdd_t, gMul_i, gMul_l, gEq, gNe, gIn_s, gIn_l, gIn_t, gIsN_e, isN_non, isN_str, isN_tup, isN_int, isN_bl, isN_lst, gAll_e, gAny_e, gInt_i, gInt_b, gList_l, gList_t, gTuple_l, gTuple_t, gMin, gMax, gIx_l, gIx_t, gIx_f, gIx_s, gSl_l, gSl_f, gSl_t, gSl_s, sizeLine_eq, e1, e2, e3]
        have lt : later n { n := m.n + 1, at_ := m.at_, pl := m.pl } 12 := ⟨by (first | omega | (simp; done) | (simp; omega)), by (first | omega | (simp; done) | (simp; omega))⟩
        exact ⟨by omega, by omega, hR _ _ lt (isPn_end (by omega) ha (.inl rfl)), by omega, hR _ _ lt (isPn_end (by omega) ha (.inr (.inl rfl))), by omega, hR _ _ lt (isPn_end (by omega) ha (.inr (.inr rfl)))⟩
end DL
namespace DL
open PySem PySem.Spec PyProof.Rows L2
theorem plains_strs : ∀ ys : List (List Nat), D.plains (ys.map .str) = true
  | [] => by rw [List.map_nil, plains_nil]
  | y :: r => by rw [List.map_cons, plains_cons, plains_strs r]; rfl
theorem depA_strs : ∀ ys : List (List Nat), PyData.depthAll (D.pys (ys.map .str)) = 0
  | [] => by rw [List.map_nil, pys_nil, depA_nil]
  | y :: r => by rw [List.map_cons, pys_cons, depA_cons, depA_strs r, py_str, dep_str]; rfl
def F__law_names_of : FW := fun ds n R _ => ds = [.src] ∧ n.n ≤ 800000000 ∧ ∀ n' ys, later n n' 34 → okN ys → R n' (.d (namesD ys))
theorem pu__law_names_of : ∀ ds n R PX, ds.length = 1 → F__law_names_of ds n R PX → w__law_names_of F__law_word F__law_one (startD 5 ds) n (poOf R PXF0) := by
  rintro ds n R PX - ⟨rfl, hn, hR⟩
  unfold w__law_names_of
  simp only [wSeq]
  have hnm : ∀ x ∈ [q "stop", q "c", q "pick", q "left", q "part", q "d", q "e", q "ff"], isNm x = true := by decide +kernel
  unfold F__law_word
  simp [wSeq, wIfS_T, wIfS_F, wIfE_T, wIfE_F, wOrT, wAndT, wNot, wTest, wCall, wCons, wNil, wVar, wC, wChain, wRet, wRetN, wEnd, wOp, wSet, wLst, wTup, wFn, wIt, wNotV, wAndV, wOrA, wSl, wPart, wPart0, wSrc, wSrcPut, wJoin, wSplit, wPartn, wAsg, wgTup, wgCons, wgNil, wgN, wApp, wExt, wDrop, wNever, wFz, wSSet, wLSet, wPwW, wPwP, wPwInc, wMakePW, wMeth, wSetPop, wAugI, wRng1, wRng2, wTrue, wipeD, startD, poOf, and_assoc, gIsi_e, tyS_non, tyS_bl, tyS_int, tyS_str, tyS_tup, tyS_lst, tyS_dct, kitB_1, kitB_2, kitB_3, kitB_4, kitB_5, kitB_6, kitB_7, kitB_8, kitB_9, kitB_10, kitB_11, kitB_12, kitB_13, kitB_14, kitB_15, kitB_16, kitB_17, kitB_18, kitB_19, kitB_20, kitB_21, kitB_22, vw_d, vw_n, vw_b, lst_l, val_d, val_l, arg_d, arg_n, arg_b, dat_d, dat_n, dat_b, out_d, out_n, out_b, vwA_d, vwA_b, vwAs_nil, vwAs_d, vwAs_b, ardat_nil, ardat_d, txts_l, txts_t, seq_l, seq_t, seq_f, seq_s, put_d, put_n, truth_str, truth_bl, truth_tup, truth_lst, sfit_str, sfit_bl, sfit_tup, sfit_lst, frzS, eqv_int, eqv_str, eqv_bl, plain_str, plain_int, plain_bl, plain_non, plain_tup, plain_lst, plains_nil, plains_cons, py_str, py_int, py_bl, py_non, py_tup, py_lst, pys_nil, pys_cons, dep_str, dep_int, dep_bl, dep_non, dep_tup, dep_lst, depA_nil, depA_cons, flat_str, flat_int, atI_0, atI_1, atI_2, strL_nil, strL_cons, cut_from1, cut_from2, gLen_s, gLen_l, gLen_t, gLen_f, gB_e, gI_e, gAdd_i, gAdd_s, gAdd_l, gAdd_t, gMul_i, gMul_l, gEq, gNe, gIn_s, gIn_l, gIn_t, gIsN_e, isN_non, isN_str, isN_tup, isN_int, isN_bl, isN_lst, gAll_e, gAny_e, gInt_i, gInt_b, gList_l, gList_t, gTuple_l, gTuple_t, gMin, gMax, gIx_l, gIx_t, gIx_f, gIx_s, gSl_l, gSl_f, gSl_t, gSl_s, sizeLine_eq]
  refine ⟨by omega, fun n2 x1 l1 hx1 => ⟨by unfold later at l1; omega, fun n3 x2 l2 hx2 => ?_⟩⟩
  unfold later at l1 l2
  have h1 := (isPn_ne hx1).1
  have h2 := (isPn_ne hx2).1
  have all : ∀ y ∈ [x1, q "stop", q "c", x2, q "pick", q "left", q "part", q "d", q "e", q "ff"], isNm y = true := fun y hy => by
    simp only [List.mem_cons, List.not_mem_nil, or_false] at hy
    rcases hy with rfl | rfl | rfl | rfl | rfl | rfl | rfl | rfl | rfl | rfl <;> first | assumption | exact hnm _ (by simp)
  have emb : ([D.str x1, D.str (q "stop"), D.str (q "c"), D.str x2, D.str (q "pick"), D.str (q "left"), D.str (q "part"), D.str (q "d"), D.str (q "e"), D.str (q "ff")] : List D) = [x1, q "stop", q "c", x2, q "pick", q "left", q "part", q "d", q "e", q "ff"].map D.str := rfl
  rw [emb]
  generalize hpool : [x1, q "stop", q "c", x2, q "pick", q "left", q "part", q "d", q "e", q "ff"] = pool at all
  have hpl : pool.length = 10 := by rw [← hpool]; rfl
  clear hpool emb
  refine wFor_m (fun n1 ds => n1.n ≤ n.n + 25 ∧ n.n ≤ n1.n ∧ ∃ j : Nat, j ≤ 9 ∧ ds = rngD 0 j) (fun P' h => ?_) ?_
  · unfold F__law_one
    simp [wSeq, wIfS_T, wIfS_F, wIfE_T, wIfE_F, wOrT, wAndT, wNot, wTest, wCall, wCons, wNil, wVar, wC, wChain, wRet, wRetN, wEnd, wOp, wSet, wLst, wTup, wFn, wIt, wNotV, wAndV, wOrA, wSl, wPart, wPart0, wSrc, wSrcPut, wJoin, wSplit, wPartn, wAsg, wgTup, wgCons, wgNil, wgN, wApp, wExt, wDrop, wNever, wFz, wSSet, wLSet, wPwW, wPwP, wPwInc, wMakePW, wMeth, wSetPop, wAugI, wRng1, wRng2, wTrue, wipeD, startD, poOf, and_assoc, gIsi_e, tyS_non, tyS_bl, tyS_int, tyS_str, tyS_tup, tyS_lst, tyS_dct, kitB_1, kitB_2, kitB_3, kitB_4, kitB_5, kitB_6, kitB_7, kitB_8, kitB_9, kitB_10, kitB_11, kitB_12, kitB_13, kitB_14, kitB_15, kitB_16, kitB_17, kitB_18, kitB_19, kitB_20, kitB_21, kitB_22, vw_d, vw_n, vw_b, lst_l, val_d, val_l, arg_d, arg_n, arg_b, dat_d, dat_n, dat_b, out_d, out_n, out_b, vwA_d, vwA_b, vwAs_nil, vwAs_d, vwAs_b, ardat_nil, ardat_d, txts_l, txts_t, seq_l, seq_t, seq_f, seq_s, put_d, put_n, truth_str, truth_bl, truth_tup, truth_lst, sfit_str, sfit_bl, sfit_tup, sfit_lst, frzS, eqv_int, eqv_str, eqv_bl, plain_str, plain_int, plain_bl, plain_non, plain_tup, plain_lst, plains_nil, plains_cons, py_str, py_int, py_bl, py_non, py_tup, py_lst, pys_nil, pys_cons, dep_str, dep_int, dep_bl, dep_non, dep_tup, dep_lst, depA_nil, depA_cons, flat_str, flat_int, atI_0, atI_1, atI_2, strL_nil, strL_cons, cut_from1, cut_from2, gLen_s, gLen_l, gLen_t, gLen_f, gB_e, gI_e, gAdd_i, gAdd_s, gAdd_l, gAdd_t, gMul_i, gMul_l, gEq, gNe, gIn_s, gIn_l, gIn_t, gIsN_e, isN_non, isN_str, isN_tup, isN_int, isN_bl, isN_lst, gAll_e, gAny_e, gInt_i, gInt_b, gList_l, gList_t, gTuple_l, gTuple_t, gMin, gMax, gIx_l, gIx_t, gIx_f, gIx_s, gSl_l, gSl_f, gSl_t, gSl_s, sizeLine_eq]
    refine ⟨by omega, ?_, ?_, ?_, ?_, ?_⟩
    · exact h _ _ ⟨by (first | omega | (simp; done) | (simp; omega)), by (first | omega | (simp; done) | (simp; omega)), 0, by omega, rfl⟩
    · exact h _ _ ⟨by (first | omega | (simp; done) | (simp; omega)), by (first | omega | (simp; done) | (simp; omega)), 1, by omega, rfl⟩
    · exact h _ _ ⟨by (first | omega | (simp; done) | (simp; omega)), by (first | omega | (simp; done) | (simp; omega)), 2, by omega, rfl⟩
    · exact h _ _ ⟨by (first | omega | (simp; done) | (simp; omega)), by (first | omega | (simp; done) | (simp; omega)), 3, by omega, rfl⟩
    · exact h _ _ ⟨by (first | omega | (simp; done) | (simp; omega)), by (first | omega | (simp; done) | (simp; omega)), 9, by omega, rfl⟩
  · rintro n1 ds ⟨hn1, hn0, j, hj, rfl⟩
    refine ⟨fun i δ m => m.n ≤ n.n + 25 + i ∧ n.n ≤ m.n ∧ ∃ ys s3 s4, δ = [.d .src, .d (.lst (pool.map .str)), .l (ys.map .str), s3, s4] ∧ ys.length ≤ i ∧ ys.Nodup ∧ ∀ y ∈ ys, isNm y = true, ⟨by omega, hn0, [], .u, .u, rfl, by simp, by simp, by simp⟩, ?_, ?_⟩
    · rintro i δ m d hd ⟨hm, hm0, ys, s3, s4, rfl, hl, nd, ok⟩
      have hi := (List.getElem?_eq_some_iff.mp hd).1
      rw [rng_len] at hi
      unfold F__law_one
      simp [wSeq, wIfS_T, wIfS_F, wIfE_T, wIfE_F, wOrT, wAndT, wNot, wTest, wCall, wCons, wNil, wVar, wC, wChain, wRet, wRetN, wEnd, wOp, wSet, wLst, wTup, wFn, wIt, wNotV, wAndV, wOrA, wSl, wPart, wPart0, wSrc, wSrcPut, wJoin, wSplit, wPartn, wAsg, wgTup, wgCons, wgNil, wgN, wApp, wExt, wDrop, wNever, wFz, wSSet, wLSet, wPwW, wPwP, wPwInc, wMakePW, wMeth, wSetPop, wAugI, wRng1, wRng2, wTrue, wipeD, startD, poOf, and_assoc, gIsi_e, tyS_non, tyS_bl, tyS_int, tyS_str, tyS_tup, tyS_lst, tyS_dct, kitB_1, kitB_2, kitB_3, kitB_4, kitB_5, kitB_6, kitB_7, kitB_8, kitB_9, kitB_10, kitB_11, kitB_12, kitB_13, kitB_14, kitB_15, kitB_16, kitB_17, kitB_18, kitB_19, kitB_20, kitB_21, kitB_22, vw_d, vw_n, vw_b, lst_l, val_d, val_l, arg_d, arg_n, arg_b, dat_d, dat_n, dat_b, out_d, out_n, out_b, vwA_d, vwA_b, vwAs_nil, vwAs_d, vwAs_b, ardat_nil, ardat_d, txts_l, txts_t, seq_l, seq_t, seq_f, seq_s, put_d, put_n, truth_str, truth_bl, truth_tup, truth_lst, sfit_str, sfit_bl, sfit_tup, sfit_lst, frzS, eqv_int, eqv_str, eqv_bl, plain_str, plain_int, plain_bl, plain_non, plain_tup, plain_lst, plains_nil, plains_cons, py_str, py_int, py_bl, py_non, py_tup, py_lst, pys_nil, pys_cons, dep_str, dep_int, dep_bl, dep_non, dep_tup, dep_lst, depA_nil, depA_cons, flat_str, flat_int, atI_0, atI_1, atI_2, strL_nil, strL_cons, cut_from1, cut_from2, gLen_s, gLen_l, gLen_t, gLen_f, gB_e, gI_e, gAdd_i, gAdd_s, gAdd_l, gAdd_t, gMul_i, gMul_l, gEq, gNe, gIn_s, gIn_l, gIn_t, gIsN_e, isN_non, isN_str, isN_tup, isN_int, isN_bl, isN_lst, gAll_e, gAny_e, gInt_i, gInt_b, gList_l, gList_t, gTuple_l, gTuple_t, gMin, gMax, gIx_l, gIx_t, gIx_f, gIx_s, gSl_l, gSl_f, gSl_t, gSl_s, sizeLine_eq]
      refine ⟨by omega, by omega, by omega, fun x hx => ?_⟩
      refine wIfS_sym (!decide (x ∈ ys)) (fun P h => ?_) (fun z => ?_) (fun z => ?_)
      · have e := mem_strs x ys
        simp [wSeq, wIfS_T, wIfS_F, wIfE_T, wIfE_F, wOrT, wAndT, wNot, wTest, wCall, wCons, wNil, wVar, wC, wChain, wRet, wRetN, wEnd, wOp, wSet, wLst, wTup, wFn, wIt, wNotV, wAndV, wOrA, wSl, wPart, wPart0, wSrc, wSrcPut, wJoin, wSplit, wPartn, wAsg, wgTup, wgCons, wgNil, wgN, wApp, wExt, wDrop, wNever, wFz, wSSet, wLSet, wPwW, wPwP, wPwInc, wMakePW, wMeth, wSetPop, wAugI, wRng1, wRng2, wTrue, wipeD, startD, poOf, and_assoc, gIsi_e, tyS_non, tyS_bl, tyS_int, tyS_str, tyS_tup, tyS_lst, tyS_dct, kitB_1, kitB_2, kitB_3, kitB_4, kitB_5, kitB_6, kitB_7, kitB_8, kitB_9, kitB_10, kitB_11, kitB_12, kitB_13, kitB_14, kitB_15, kitB_16, kitB_17, kitB_18, kitB_19, kitB_20, kitB_21, kitB_22, vw_d, vw_n, vw_b, lst_l, val_d, val_l, arg_d, arg_n, arg_b, dat_d, dat_n, dat_b, out_d, out_n, out_b, vwA_d, vwA_b, vwAs_nil, vwAs_d, vwAs_b, ardat_nil, ardat_d, txts_l, txts_t, seq_l, seq_t, seq_f, seq_s, put_d, put_n, truth_str, truth_bl, truth_tup, truth_lst, sfit_str, sfit_bl, sfit_tup, sfit_lst, frzS, eqv_int, eqv_str, eqv_bl, plain_str, plain_int, plain_bl, plain_non, plain_tup, plain_lst, plains_nil, plains_cons, py_str, py_int, py_bl, py_non, py_tup, py_lst, pys_nil, pys_cons, dep_str, dep_int, dep_bl, dep_non, dep_tup, dep_lst, depA_nil, depA_cons, flat_str, flat_int, atI_0, atI_1, atI_2, strL_nil, strL_cons, cut_from1, cut_from2, gLen_s, gLen_l, gLen_t, gLen_f, gB_e, gI_e, gAdd_i, gAdd_s, gAdd_l, gAdd_t, gMul_i, gMul_l, gEq, gNe, gIn_s, gIn_l, gIn_t, gIsN_e, isN_non, isN_str, isN_tup, isN_int, isN_bl, isN_lst, gAll_e, gAny_e, gInt_i, gInt_b, gList_l, gList_t, gTuple_l, gTuple_t, gMin, gMax, gIx_l, gIx_t, gIx_f, gIx_s, gSl_l, gSl_f, gSl_t, gSl_s, e, plains_strs, depA_strs]
        by_cases hx2 : x ∈ ys
        · exact .inl ⟨hx2, by simpa [hx2] using h⟩
        · exact .inr ⟨fun a ha e => hx2 (e ▸ ha), by simpa [hx2] using h⟩
      · have z : x ∉ ys := by simpa using z
        simp [wSeq, wIfS_T, wIfS_F, wIfE_T, wIfE_F, wOrT, wAndT, wNot, wTest, wCall, wCons, wNil, wVar, wC, wChain, wRet, wRetN, wEnd, wOp, wSet, wLst, wTup, wFn, wIt, wNotV, wAndV, wOrA, wSl, wPart, wPart0, wSrc, wSrcPut, wJoin, wSplit, wPartn, wAsg, wgTup, wgCons, wgNil, wgN, wApp, wExt, wDrop, wNever, wFz, wSSet, wLSet, wPwW, wPwP, wPwInc, wMakePW, wMeth, wSetPop, wAugI, wRng1, wRng2, wTrue, wipeD, startD, poOf, and_assoc, gIsi_e, tyS_non, tyS_bl, tyS_int, tyS_str, tyS_tup, tyS_lst, tyS_dct, kitB_1, kitB_2, kitB_3, kitB_4, kitB_5, kitB_6, kitB_7, kitB_8, kitB_9, kitB_10, kitB_11, kitB_12, kitB_13, kitB_14, kitB_15, kitB_16, kitB_17, kitB_18, kitB_19, kitB_20, kitB_21, kitB_22, vw_d, vw_n, vw_b, lst_l, val_d, val_l, arg_d, arg_n, arg_b, dat_d, dat_n, dat_b, out_d, out_n, out_b, vwA_d, vwA_b, vwAs_nil, vwAs_d, vwAs_b, ardat_nil, ardat_d, txts_l, txts_t, seq_l, seq_t, seq_f, seq_s, put_d, put_n, truth_str, truth_bl, truth_tup, truth_lst, sfit_str, sfit_bl, sfit_tup, sfit_lst, frzS, eqv_int, eqv_str, eqv_bl, plain_str, plain_int, plain_bl, plain_non, plain_tup, plain_lst, plains_nil, plains_cons, py_str, py_int, py_bl, py_non, py_tup, py_lst, pys_nil, pys_cons, dep_str, dep_int, dep_bl, dep_non, dep_tup, dep_lst, depA_nil, depA_cons, flat_str, flat_int, atI_0, atI_1, atI_2, strL_nil, strL_cons, cut_from1, cut_from2, gLen_s, gLen_l, gLen_t, gLen_f, gB_e, gI_e, gAdd_i, gAdd_s, gAdd_l, gAdd_t, gMul_i, gMul_l, gEq, gNe, gIn_s, gIn_l, gIn_t, gIsN_e, isN_non, isN_str, isN_tup, isN_int, isN_bl, isN_lst, gAll_e, gAny_e, gInt_i, gInt_b, gList_l, gList_t, gTuple_l, gTuple_t, gMin, gMax, gIx_l, gIx_t, gIx_f, gIx_s, gSl_l, gSl_f, gSl_t, gSl_s, sizeLine_eq]
        refine ⟨by omega, by omega, by omega, ys ++ [x], by simp, by simp; omega, List.nodup_append.mpr ⟨nd, by simp, fun a ha b hb e => ?_⟩, fun y hy => ?_⟩
        · rw [List.mem_singleton] at hb
          exact z (hb ▸ e ▸ ha)
        · rcases List.mem_append.mp hy with hy | hy
          · exact ok y hy
          · rw [List.mem_singleton.mp hy]; exact all x hx
      · simp [wSeq, wIfS_T, wIfS_F, wIfE_T, wIfE_F, wOrT, wAndT, wNot, wTest, wCall, wCons, wNil, wVar, wC, wChain, wRet, wRetN, wEnd, wOp, wSet, wLst, wTup, wFn, wIt, wNotV, wAndV, wOrA, wSl, wPart, wPart0, wSrc, wSrcPut, wJoin, wSplit, wPartn, wAsg, wgTup, wgCons, wgNil, wgN, wApp, wExt, wDrop, wNever, wFz, wSSet, wLSet, wPwW, wPwP, wPwInc, wMakePW, wMeth, wSetPop, wAugI, wRng1, wRng2, wTrue, wipeD, startD, poOf, and_assoc, gIsi_e, tyS_non, tyS_bl, tyS_int, tyS_str, tyS_tup, tyS_lst, tyS_dct, kitB_1, kitB_2, kitB_3, kitB_4, kitB_5, kitB_6, kitB_7, kitB_8, kitB_9, kitB_10, kitB_11, kitB_12, kitB_13, kitB_14, kitB_15, kitB_16, kitB_17, kitB_18, kitB_19, kitB_20, kitB_21, kitB_22, vw_d, vw_n, vw_b, lst_l, val_d, val_l, arg_d, arg_n, arg_b, dat_d, dat_n, dat_b, out_d, out_n, out_b, vwA_d, vwA_b, vwAs_nil, vwAs_d, vwAs_b, ardat_nil, ardat_d, txts_l, txts_t, seq_l, seq_t, seq_f, seq_s, put_d, put_n, truth_str, truth_bl, truth_tup, truth_lst, sfit_str, sfit_bl, sfit_tup, sfit_lst, frzS, eqv_int, eqv_str, eqv_bl, plain_str, plain_int, plain_bl, plain_non, plain_tup, plain_lst, plains_nil, plains_cons, py_str, py_int, py_bl, py_non, py_tup, py_lst, pys_nil, pys_cons, dep_str, dep_int, dep_bl, dep_non, dep_tup, dep_lst, depA_nil, depA_cons, flat_str, flat_int, atI_0, atI_1, atI_2, strL_nil, strL_cons, cut_from1, cut_from2, gLen_s, gLen_l, gLen_t, gLen_f, gB_e, gI_e, gAdd_i, gAdd_s, gAdd_l, gAdd_t, gMul_i, gMul_l, gEq, gNe, gIn_s, gIn_l, gIn_t, gIsN_e, isN_non, isN_str, isN_tup, isN_int, isN_bl, isN_lst, gAll_e, gAny_e, gInt_i, gInt_b, gList_l, gList_t, gTuple_l, gTuple_t, gMin, gMax, gIx_l, gIx_t, gIx_f, gIx_s, gSl_l, gSl_f, gSl_t, gSl_s]
        exact ⟨by omega, by omega, ys, rfl, by omega, nd, ok⟩
    · rintro δ m ⟨hm, hm0, ys, s3, s4, rfl, hl, nd, ok⟩
      rw [rng_len] at hm hl
      simp [wSeq, wIfS_T, wIfS_F, wIfE_T, wIfE_F, wOrT, wAndT, wNot, wTest, wCall, wCons, wNil, wVar, wC, wChain, wRet, wRetN, wEnd, wOp, wSet, wLst, wTup, wFn, wIt, wNotV, wAndV, wOrA, wSl, wPart, wPart0, wSrc, wSrcPut, wJoin, wSplit, wPartn, wAsg, wgTup, wgCons, wgNil, wgN, wApp, wExt, wDrop, wNever, wFz, wSSet, wLSet, wPwW, wPwP, wPwInc, wMakePW, wMeth, wSetPop, wAugI, wRng1, wRng2, wTrue, wipeD, startD, poOf, and_assoc, gIsi_e, tyS_non, tyS_bl, tyS_int, tyS_str, tyS_tup, tyS_lst, tyS_dct, kitB_1, kitB_2, kitB_3, kitB_4, kitB_5, kitB_6, kitB_7, kitB_8, kitB_9, kitB_10, kitB_11, kitB_12, kitB_13, kitB_14, kitB_15, kitB_16, kitB_17, kitB_18, kitB_19, kitB_20, kitB_21, kitB_22, vw_d, vw_n, vw_b, lst_l, val_d, val_l, arg_d, arg_n, arg_b, dat_d, dat_n, dat_b, out_d, out_n, out_b, vwA_d, vwA_b, vwAs_nil, vwAs_d, vwAs_b, ardat_nil, ardat_d, txts_l, txts_t, seq_l, seq_t, seq_f, seq_s, put_d, put_n, truth_str, truth_bl, truth_tup, truth_lst, sfit_str, sfit_bl, sfit_tup, sfit_lst, frzS, eqv_int, eqv_str, eqv_bl, plain_str, plain_int, plain_bl, plain_non, plain_tup, plain_lst, plains_nil, plains_cons, py_str, py_int, py_bl, py_non, py_tup, py_lst, pys_nil, pys_cons, dep_str, dep_int, dep_bl, dep_non, dep_tup, dep_lst, depA_nil, depA_cons, flat_str, flat_int, atI_0, atI_1, atI_2, strL_nil, strL_cons, cut_from1, cut_from2, gLen_s, gLen_l, gLen_t, gLen_f, gB_e, gI_e, gAdd_i, gAdd_s, gAdd_l, gAdd_t, gMul_i, gMul_l, gEq, gNe, gIn_s, gIn_l, gIn_t, gIsN_e, isN_non, isN_str, isN_tup, isN_int, isN_bl, isN_lst, gAll_e, gAny_e, gInt_i, gInt_b, gList_l, gList_t, gTuple_l, gTuple_t, gMin, gMax, gIx_l, gIx_t, gIx_f, gIx_s, gSl_l, gSl_f, gSl_t, gSl_s]
      exact hR _ _ ⟨by omega, by omega⟩ ⟨ok, nd, by omega⟩
def F__law_pairs_of : FW := fun ds n R _ => ds = [.src] ∧ n.n ≤ 700000000 ∧ ∀ n' ps, later n n' 200 → okP ps → R n' (.d (pairsD ps))
theorem pu__law_pairs_of : ∀ ds n R PX, ds.length = 1 → F__law_pairs_of ds n R PX → w__law_pairs_of F__law_names_of F__law_word F__law_one (startD 3 ds) n (poOf R PXF0) := by
  rintro ds n R PX - ⟨rfl, hn, hR⟩
  unfold w__law_pairs_of
  simp only [wSeq]
  refine wSet_i (n' := n) (r := .n []) (fun P h => by simp [wSeq, wIfS_T, wIfS_F, wIfE_T, wIfE_F, wOrT, wAndT, wNot, wTest, wCall, wCons, wNil, wVar, wC, wChain, wRet, wRetN, wEnd, wOp, wSet, wLst, wTup, wFn, wIt, wNotV, wAndV, wOrA, wSl, wPart, wPart0, wSrc, wSrcPut, wJoin, wSplit, wPartn, wAsg, wgTup, wgCons, wgNil, wgN, wApp, wExt, wDrop, wNever, wFz, wSSet, wLSet, wPwW, wPwP, wPwInc, wMakePW, wMeth, wSetPop, wAugI, wRng1, wRng2, wTrue, wipeD, startD, poOf, and_assoc, gIsi_e, tyS_non, tyS_bl, tyS_int, tyS_str, tyS_tup, tyS_lst, tyS_dct, kitB_1, kitB_2, kitB_3, kitB_4, kitB_5, kitB_6, kitB_7, kitB_8, kitB_9, kitB_10, kitB_11, kitB_12, kitB_13, kitB_14, kitB_15, kitB_16, kitB_17, kitB_18, kitB_19, kitB_20, kitB_21, kitB_22, vw_d, vw_n, vw_b, lst_l, val_d, val_l, arg_d, arg_n, arg_b, dat_d, dat_n, dat_b, out_d, out_n, out_b, vwA_d, vwA_b, vwAs_nil, vwAs_d, vwAs_b, ardat_nil, ardat_d, txts_l, txts_t, seq_l, seq_t, seq_f, seq_s, put_d, put_n, truth_str, truth_bl, truth_tup, truth_lst, sfit_str, sfit_bl, sfit_tup, sfit_lst, frzS, eqv_int, eqv_str, eqv_bl, plain_str, plain_int, plain_bl, plain_non, plain_tup, plain_lst, plains_nil, plains_cons, py_str, py_int, py_bl, py_non, py_tup, py_lst, pys_nil, pys_cons, dep_str, dep_int, dep_bl, dep_non, dep_tup, dep_lst, depA_nil, depA_cons, flat_str, flat_int, atI_0, atI_1, atI_2, strL_nil, strL_cons, cut_from1, cut_from2, gLen_s, gLen_l, gLen_t, gLen_f, gB_e, gI_e, gAdd_i, gAdd_s, gAdd_l, gAdd_t, gMul_i, gMul_l, gEq, gNe, gIn_s, gIn_l, gIn_t, gIsN_e, isN_non, isN_str, isN_tup, isN_int, isN_bl, isN_lst, gAll_e, gAny_e, gInt_i, gInt_b, gList_l, gList_t, gTuple_l, gTuple_t, gMin, gMax, gIx_l, gIx_t, gIx_f, gIx_s, gSl_l, gSl_f, gSl_t, gSl_s, sizeLine_eq]; exact h) (put_n _ _ _) ?_
  dsimp only
  refine wFor_m (fun n1 ds => later n n1 34 ∧ ∃ ys, okN ys ∧ ds = ys.map .str) (fun P' h => ?_) ?_
  · unfold F__law_names_of
    simp [wSeq, wIfS_T, wIfS_F, wIfE_T, wIfE_F, wOrT, wAndT, wNot, wTest, wCall, wCons, wNil, wVar, wC, wChain, wRet, wRetN, wEnd, wOp, wSet, wLst, wTup, wFn, wIt, wNotV, wAndV, wOrA, wSl, wPart, wPart0, wSrc, wSrcPut, wJoin, wSplit, wPartn, wAsg, wgTup, wgCons, wgNil, wgN, wApp, wExt, wDrop, wNever, wFz, wSSet, wLSet, wPwW, wPwP, wPwInc, wMakePW, wMeth, wSetPop, wAugI, wRng1, wRng2, wTrue, wipeD, startD, poOf, and_assoc, gIsi_e, tyS_non, tyS_bl, tyS_int, tyS_str, tyS_tup, tyS_lst, tyS_dct, kitB_1, kitB_2, kitB_3, kitB_4, kitB_5, kitB_6, kitB_7, kitB_8, kitB_9, kitB_10, kitB_11, kitB_12, kitB_13, kitB_14, kitB_15, kitB_16, kitB_17, kitB_18, kitB_19, kitB_20, kitB_21, kitB_22, vw_d, vw_n, vw_b, lst_l, val_d, val_l, arg_d, arg_n, arg_b, dat_d, dat_n, dat_b, out_d, out_n, out_b, vwA_d, vwA_b, vwAs_nil, vwAs_d, vwAs_b, ardat_nil, ardat_d, txts_l, txts_t, seq_l, seq_t, seq_f, seq_s, put_d, put_n, truth_str, truth_bl, truth_tup, truth_lst, sfit_str, sfit_bl, sfit_tup, sfit_lst, frzS, eqv_int, eqv_str, eqv_bl, plain_str, plain_int, plain_bl, plain_non, plain_tup, plain_lst, plains_nil, plains_cons, py_str, py_int, py_bl, py_non, py_tup, py_lst, pys_nil, pys_cons, dep_str, dep_int, dep_bl, dep_non, dep_tup, dep_lst, depA_nil, depA_cons, flat_str, flat_int, atI_0, atI_1, atI_2, strL_nil, strL_cons, cut_from1, cut_from2, gLen_s, gLen_l, gLen_t, gLen_f, gB_e, gI_e, gAdd_i, gAdd_s, gAdd_l, gAdd_t, gMul_i, gMul_l, gEq, gNe, gIn_s, gIn_l, gIn_t, gIsN_e, isN_non, isN_str, isN_tup, isN_int, isN_bl, isN_lst, gAll_e, gAny_e, gInt_i, gInt_b, gList_l, gList_t, gTuple_l, gTuple_t, gMin, gMax, gIx_l, gIx_t, gIx_f, gIx_s, gSl_l, gSl_f, gSl_t, gSl_s, namesD]
    exact ⟨by omega, fun n' ys l ok => h _ _ ⟨l, ys, ok, rfl⟩⟩
  · rintro n1 ds ⟨l, ys, ok, rfl⟩
    refine ⟨fun i δ m => m.n ≤ n.n + 34 + 13 * i ∧ n.n ≤ m.n ∧ ∃ ps s2, δ = [.d .src, .l (ps.map pairD), s2] ∧ ps.map (·.1) = ys.take i ∧ ∀ p ∈ ps, isNm p.1 = true ∧ isNm p.2 = true, ⟨by unfold later at l; omega, by unfold later at l; omega, [], .u, by simp [startD], by simp, by simp⟩, ?_, ?_⟩
    · rintro i δ m d hd ⟨hm, hm0, ps, s2, rfl, he, hp⟩
      rw [List.getElem?_map] at hd
      cases hq : ys[i]? with
      | none => rw [hq] at hd; cases hd
      | some y =>
        rw [hq] at hd
        cases hd
        have hi := (List.getElem?_eq_some_iff.mp hq).1
        have hy := ok.1 y (List.mem_of_getElem? hq)
        have h10 := ok.2.2
        have hpl : ps.length ≤ 10 := by
          have := congrArg List.length he
          simp at this
          omega
        unfold F__law_word F__law_one
        simp [wSeq, wIfS_T, wIfS_F, wIfE_T, wIfE_F, wOrT, wAndT, wNot, wTest, wCall, wCons, wNil, wVar, wC, wChain, wRet, wRetN, wEnd, wOp, wSet, wLst, wTup, wFn, wIt, wNotV, wAndV, wOrA, wSl, wPart, wPart0, wSrc, wSrcPut, wJoin, wSplit, wPartn, wAsg, wgTup, wgCons, wgNil, wgN, wApp, wExt, wDrop, wNever, wFz, wSSet, wLSet, wPwW, wPwP, wPwInc, wMakePW, wMeth, wSetPop, wAugI, wRng1, wRng2, wTrue, wipeD, startD, poOf, and_assoc, gIsi_e, tyS_non, tyS_bl, tyS_int, tyS_str, tyS_tup, tyS_lst, tyS_dct, kitB_1, kitB_2, kitB_3, kitB_4, kitB_5, kitB_6, kitB_7, kitB_8, kitB_9, kitB_10, kitB_11, kitB_12, kitB_13, kitB_14, kitB_15, kitB_16, kitB_17, kitB_18, kitB_19, kitB_20, kitB_21, kitB_22, vw_d, vw_n, vw_b, lst_l, val_d, val_l, arg_d, arg_n, arg_b, dat_d, dat_n, dat_b, out_d, out_n, out_b, vwA_d, vwA_b, vwAs_nil, vwAs_d, vwAs_b, ardat_nil, ardat_d, txts_l, txts_t, seq_l, seq_t, seq_f, seq_s, put_d, put_n, truth_str, truth_bl, truth_tup, truth_lst, sfit_str, sfit_bl, sfit_tup, sfit_lst, frzS, eqv_int, eqv_str, eqv_bl, plain_str, plain_int, plain_bl, plain_non, plain_tup, plain_lst, plains_nil, plains_cons, py_str, py_int, py_bl, py_non, py_tup, py_lst, pys_nil, pys_cons, dep_str, dep_int, dep_bl, dep_non, dep_tup, dep_lst, depA_nil, depA_cons, flat_str, flat_int, atI_0, atI_1, atI_2, strL_nil, strL_cons, cut_from1, cut_from2, gLen_s, gLen_l, gLen_t, gLen_f, gB_e, gI_e, gAdd_i, gAdd_s, gAdd_l, gAdd_t, gMul_i, gMul_l, gEq, gNe, gIn_s, gIn_l, gIn_t, gIsN_e, isN_non, isN_str, isN_tup, isN_int, isN_bl, isN_lst, gAll_e, gAny_e, gInt_i, gInt_b, gList_l, gList_t, gTuple_l, gTuple_t, gMin, gMax, gIx_l, gIx_t, gIx_f, gIx_s, gSl_l, gSl_f, gSl_t, gSl_s, sizeLine_eq]
        refine ⟨by omega, fun n2 x l2 hx => ⟨by unfold later at l2; omega, ?_⟩⟩
        unfold later at l2
        have fin : ∀ z, isNm z = true → (n2.n + 1 ≤ n.n + 34 + 13 * (i + 1) ∧ n.n ≤ n2.n + 1 ∧ ∃ zs2 : List (List Nat × List Nat), ps.map pairD ++ [D.tup [.str y, .str z]] = zs2.map pairD ∧ zs2.map (·.1) = ys.take (i + 1) ∧ ∀ a b : List Nat, (a, b) ∈ zs2 → isNm a = true ∧ isNm b = true) := fun z hz => by
          refine ⟨by omega, by omega, ps ++ [(y, z)], by simp [pairD], ?_, fun a b hpp => ?_⟩
          · rw [List.map_append, he, List.take_add_one, hq]; rfl
          · rcases List.mem_append.mp hpp with hpp | hpp
            · exact hp _ hpp
            · have e := List.mem_singleton.mp hpp
              cases e
              exact ⟨hy, hz⟩
        have f1 := fin x (isPn_ne hx).1
        have f2 := fin (q "stop") (by decide +kernel)
        have f3 := fin y hy
        have f4 := fin (q "d") (by decide +kernel)
        have hpz : ps.length < 16777216 := by omega
        exact ⟨hpz, f1.1, f1.2.1, f1.2.2, hpz, f2.1, f2.2.1, f2.2.2, hpz, f3.1, f3.2.1, f3.2.2, hpz, f4⟩
    · rintro δ m ⟨hm, hm0, ps, s2, rfl, he, hp⟩
      rw [List.length_map] at hm he
      rw [List.take_length] at he
      simp [wSeq, wIfS_T, wIfS_F, wIfE_T, wIfE_F, wOrT, wAndT, wNot, wTest, wCall, wCons, wNil, wVar, wC, wChain, wRet, wRetN, wEnd, wOp, wSet, wLst, wTup, wFn, wIt, wNotV, wAndV, wOrA, wSl, wPart, wPart0, wSrc, wSrcPut, wJoin, wSplit, wPartn, wAsg, wgTup, wgCons, wgNil, wgN, wApp, wExt, wDrop, wNever, wFz, wSSet, wLSet, wPwW, wPwP, wPwInc, wMakePW, wMeth, wSetPop, wAugI, wRng1, wRng2, wTrue, wipeD, startD, poOf, and_assoc, gIsi_e, tyS_non, tyS_bl, tyS_int, tyS_str, tyS_tup, tyS_lst, tyS_dct, kitB_1, kitB_2, kitB_3, kitB_4, kitB_5, kitB_6, kitB_7, kitB_8, kitB_9, kitB_10, kitB_11, kitB_12, kitB_13, kitB_14, kitB_15, kitB_16, kitB_17, kitB_18, kitB_19, kitB_20, kitB_21, kitB_22, vw_d, vw_n, vw_b, lst_l, val_d, val_l, arg_d, arg_n, arg_b, dat_d, dat_n, dat_b, out_d, out_n, out_b, vwA_d, vwA_b, vwAs_nil, vwAs_d, vwAs_b, ardat_nil, ardat_d, txts_l, txts_t, seq_l, seq_t, seq_f, seq_s, put_d, put_n, truth_str, truth_bl, truth_tup, truth_lst, sfit_str, sfit_bl, sfit_tup, sfit_lst, frzS, eqv_int, eqv_str, eqv_bl, plain_str, plain_int, plain_bl, plain_non, plain_tup, plain_lst, plains_nil, plains_cons, py_str, py_int, py_bl, py_non, py_tup, py_lst, pys_nil, pys_cons, dep_str, dep_int, dep_bl, dep_non, dep_tup, dep_lst, depA_nil, depA_cons, flat_str, flat_int, atI_0, atI_1, atI_2, strL_nil, strL_cons, cut_from1, cut_from2, gLen_s, gLen_l, gLen_t, gLen_f, gB_e, gI_e, gAdd_i, gAdd_s, gAdd_l, gAdd_t, gMul_i, gMul_l, gEq, gNe, gIn_s, gIn_l, gIn_t, gIsN_e, isN_non, isN_str, isN_tup, isN_int, isN_bl, isN_lst, gAll_e, gAny_e, gInt_i, gInt_b, gList_l, gList_t, gTuple_l, gTuple_t, gMin, gMax, gIx_l, gIx_t, gIx_f, gIx_s, gSl_l, gSl_f, gSl_t, gSl_s]
      have h10 := ok.2.2
      exact hR _ ps ⟨by omega, by omega⟩ ⟨hp, by rw [he]; exact ok.2.1, by have := congrArg List.length he; simp at this; omega⟩
end DL
namespace DL
open PySem PySem.Spec PyProof.Rows L2
theorem t_lt {δ : List Sl} {i : Nat} {m c : Int} {n : Gh} {P : Gh → Bool → Prop} {PX : PXT} (e : δ[i]? = some (.d (.int m))) (h : P n (decide (m < c))) : wTest (wOp gLt (wVar i) (wC (.int c))) δ n P PX :=
  ⟨_, by rw [e]; rfl, _, _, rfl, rfl, m, c, rfl, rfl, _, rfl, h⟩
theorem t_eq {δ : List Sl} {i : Nat} {m c : Int} {n : Gh} {P : Gh → Bool → Prop} {PX : PXT} (e : δ[i]? = some (.d (.int m))) (h : P n (decide (m = c))) : wTest (wOp gEq (wVar i) (wC (.int c))) δ n P PX :=
  ⟨_, by rw [e]; rfl, _, _, rfl, rfl, rfl, rfl, by rw [py_int, dep_int]; decide, by rw [py_int, dep_int]; decide, _, rfl, by
    rw [eqv_int]
    have : (m == c) = decide (m = c) := by by_cases q : m = c <;> simp [q]
    rw [this]; exact h⟩
theorem wOrT_i {wa wb : WT} {δ : List Sl} {n : Gh} {P : Gh → Bool → Prop} {PX : PXT} (a b : Bool) (ha : ∀ P : Gh → Bool → Prop, P n a → wa δ n P PX) (hb : ∀ P : Gh → Bool → Prop, P n b → wb δ n P PX) (h : P n (a || b)) : wOrT wa wb δ n P PX :=
  ha _ ⟨fun e => by rw [e] at h; exact h, fun e => hb _ (by rw [e] at h; exact h)⟩
def F__law_plan (k : Nat) : FW := fun ds n R _ => ∃ m : Int, ds = [.src, .int m] ∧ m.toNat < 2 * k ∧ m ≤ 40 ∧ n.n + 300 * m.toNat ≤ 600000000 ∧ ∀ n' (p : Pl), later n n' (300 * m.toNat + 20) → p.ok → p.spell.length ≤ max m.toNat 1 → R n' (.d p.d)
theorem pu__law_plan (k : Nat) : ∀ ds n R PX, ds.length = 2 → F__law_plan (k + 1) ds n R PX → w__law_plan F__law_next F__law_word (F__law_plan k) F__law_names_of F__law_pairs_of F__law_one (startD 6 ds) n (poOf R PXF0) := by
  rintro ds n R PX - ⟨m, rfl, hk, h40, hn, hR⟩
  unfold w__law_plan
  simp only [wSeq]
  refine wSet_m (fun n' x => n' = { n with n := n.n + 1 } ∧ ∃ w : Int, x = .int w ∧ 0 ≤ w ∧ w < 10) (fun P h => ?_) ?_
  · unfold F__law_next
    simp [wSeq, wIfS_T, wIfS_F, wIfE_T, wIfE_F, wOrT, wAndT, wNot, wTest, wCall, wCons, wNil, wVar, wC, wChain, wRet, wRetN, wEnd, wOp, wSet, wLst, wTup, wFn, wIt, wNotV, wAndV, wOrA, wSl, wPart, wPart0, wSrc, wSrcPut, wJoin, wSplit, wPartn, wAsg, wgTup, wgCons, wgNil, wgN, wApp, wExt, wDrop, wNever, wFz, wSSet, wLSet, wPwW, wPwP, wPwInc, wMakePW, wMeth, wSetPop, wAugI, wRng1, wRng2, wTrue, wipeD, startD, poOf, and_assoc, gIsi_e, tyS_non, tyS_bl, tyS_int, tyS_str, tyS_tup, tyS_lst, tyS_dct, kitB_1, kitB_2, kitB_3, kitB_4, kitB_5, kitB_6, kitB_7, kitB_8, kitB_9, kitB_10, kitB_11, kitB_12, kitB_13, kitB_14, kitB_15, kitB_16, kitB_17, kitB_18, kitB_19, kitB_20, kitB_21, kitB_22, vw_d, vw_n, vw_b, lst_l, val_d, val_l, arg_d, arg_n, arg_b, dat_d, dat_n, dat_b, out_d, out_n, out_b, vwA_d, vwA_b, vwAs_nil, vwAs_d, vwAs_b, ardat_nil, ardat_d, txts_l, txts_t, seq_l, seq_t, seq_f, seq_s, put_d, put_n, truth_str, truth_bl, truth_tup, truth_lst, sfit_str, sfit_bl, sfit_tup, sfit_lst, frzS, eqv_int, eqv_str, eqv_bl, plain_str, plain_int, plain_bl, plain_non, plain_tup, plain_lst, plains_nil, plains_cons, py_str, py_int, py_bl, py_non, py_tup, py_lst, pys_nil, pys_cons, dep_str, dep_int, dep_bl, dep_non, dep_tup, dep_lst, depA_nil, depA_cons, flat_str, flat_int, atI_0, atI_1, atI_2, strL_nil, strL_cons, cut_from1, cut_from2, gLen_s, gLen_l, gLen_t, gLen_f, gB_e, gI_e, gAdd_i, gAdd_s, gAdd_l, gAdd_t, gMul_i, gMul_l, gEq, gNe, gIn_s, gIn_l, gIn_t, gIsN_e, isN_non, isN_str, isN_tup, isN_int, isN_bl, isN_lst, gAll_e, gAny_e, gInt_i, gInt_b, gList_l, gList_t, gTuple_l, gTuple_t, gMin, gMax, gIx_l, gIx_t, gIx_f, gIx_s, gSl_l, gSl_f, gSl_t, gSl_s]
    exact ⟨by omega, fun i h0 h1 => h _ _ ⟨rfl, i, rfl, h0, h1⟩⟩
  rintro n1 x ⟨rfl, w, rfl, hw0, hw1⟩
  dsimp only
  refine wIfS_sym (decide (m < 4) || decide (w < 2)) (fun P h => ?_) (fun z => ?_) (fun z => ?_)
  · exact wOrT_i _ _ (fun P h => t_lt rfl h) (fun P h => t_lt rfl h) h
  · unfold F__law_word
    simp [wSeq, wIfS_T, wIfS_F, wIfE_T, wIfE_F, wOrT, wAndT, wNot, wTest, wCall, wCons, wNil, wVar, wC, wChain, wRet, wRetN, wEnd, wOp, wSet, wLst, wTup, wFn, wIt, wNotV, wAndV, wOrA, wSl, wPart, wPart0, wSrc, wSrcPut, wJoin, wSplit, wPartn, wAsg, wgTup, wgCons, wgNil, wgN, wApp, wExt, wDrop, wNever, wFz, wSSet, wLSet, wPwW, wPwP, wPwInc, wMakePW, wMeth, wSetPop, wAugI, wRng1, wRng2, wTrue, wipeD, startD, poOf, and_assoc, gIsi_e, tyS_non, tyS_bl, tyS_int, tyS_str, tyS_tup, tyS_lst, tyS_dct, kitB_1, kitB_2, kitB_3, kitB_4, kitB_5, kitB_6, kitB_7, kitB_8, kitB_9, kitB_10, kitB_11, kitB_12, kitB_13, kitB_14, kitB_15, kitB_16, kitB_17, kitB_18, kitB_19, kitB_20, kitB_21, kitB_22, vw_d, vw_n, vw_b, lst_l, val_d, val_l, arg_d, arg_n, arg_b, dat_d, dat_n, dat_b, out_d, out_n, out_b, vwA_d, vwA_b, vwAs_nil, vwAs_d, vwAs_b, ardat_nil, ardat_d, txts_l, txts_t, seq_l, seq_t, seq_f, seq_s, put_d, put_n, truth_str, truth_bl, truth_tup, truth_lst, sfit_str, sfit_bl, sfit_tup, sfit_lst, frzS, eqv_int, eqv_str, eqv_bl, plain_str, plain_int, plain_bl, plain_non, plain_tup, plain_lst, plains_nil, plains_cons, py_str, py_int, py_bl, py_non, py_tup, py_lst, pys_nil, pys_cons, dep_str, dep_int, dep_bl, dep_non, dep_tup, dep_lst, depA_nil, depA_cons, flat_str, flat_int, atI_0, atI_1, atI_2, strL_nil, strL_cons, cut_from1, cut_from2, gLen_s, gLen_l, gLen_t, gLen_f, gB_e, gI_e, gAdd_i, gAdd_s, gAdd_l, gAdd_t, gMul_i, gMul_l, gEq, gNe, gIn_s, gIn_l, gIn_t, gIsN_e, isN_non, isN_str, isN_tup, isN_int, isN_bl, isN_lst, gAll_e, gAny_e, gInt_i, gInt_b, gList_l, gList_t, gTuple_l, gTuple_t, gMin, gMax, gIx_l, gIx_t, gIx_f, gIx_s, gSl_l, gSl_f, gSl_t, gSl_s, sizeLine_eq]
    refine ⟨by omega, fun n2 x l hx => ?_⟩
    have l2 : later n n2 (300 * m.toNat + 20) := by unfold later at *; simp at l; omega
    split
    · refine ⟨_, atI_1 _ _ _, hR _ (.part x) l2 hx (Nat.le_max_right _ _)⟩
    · refine ⟨_, atI_0 _ _, hR _ .stop l2 trivial (Nat.le_max_right _ _)⟩
  have hm4 : 4 ≤ m := by simp at z; omega
  simp only [wEnd]
  refine wIfS_sym (decide (w = 4) || decide (w = 5)) (fun P h => ?_) (fun z => ?_) (fun z => ?_)
  · exact wOrT_i _ _ (fun P h => t_eq rfl h) (fun P h => t_eq rfl h) h
  · have hw : w = 4 ∨ w = 5 := by simpa using z
    unfold F__law_plan
    simp [wSeq, wIfS_T, wIfS_F, wIfE_T, wIfE_F, wOrT, wAndT, wNot, wTest, wCall, wCons, wNil, wVar, wC, wChain, wRet, wRetN, wEnd, wOp, wSet, wLst, wTup, wFn, wIt, wNotV, wAndV, wOrA, wSl, wPart, wPart0, wSrc, wSrcPut, wJoin, wSplit, wPartn, wAsg, wgTup, wgCons, wgNil, wgN, wApp, wExt, wDrop, wNever, wFz, wSSet, wLSet, wPwW, wPwP, wPwInc, wMakePW, wMeth, wSetPop, wAugI, wRng1, wRng2, wTrue, wipeD, startD, poOf, and_assoc, gIsi_e, tyS_non, tyS_bl, tyS_int, tyS_str, tyS_tup, tyS_lst, tyS_dct, kitB_1, kitB_2, kitB_3, kitB_4, kitB_5, kitB_6, kitB_7, kitB_8, kitB_9, kitB_10, kitB_11, kitB_12, kitB_13, kitB_14, kitB_15, kitB_16, kitB_17, kitB_18, kitB_19, kitB_20, kitB_21, kitB_22, vw_d, vw_n, vw_b, lst_l, val_d, val_l, arg_d, arg_n, arg_b, dat_d, dat_n, dat_b, out_d, out_n, out_b, vwA_d, vwA_b, vwAs_nil, vwAs_d, vwAs_b, ardat_nil, ardat_d, txts_l, txts_t, seq_l, seq_t, seq_f, seq_s, put_d, put_n, truth_str, truth_bl, truth_tup, truth_lst, sfit_str, sfit_bl, sfit_tup, sfit_lst, frzS, eqv_int, eqv_str, eqv_bl, plain_str, plain_int, plain_bl, plain_non, plain_tup, plain_lst, plains_nil, plains_cons, py_str, py_int, py_bl, py_non, py_tup, py_lst, pys_nil, pys_cons, dep_str, dep_int, dep_bl, dep_non, dep_tup, dep_lst, depA_nil, depA_cons, flat_str, flat_int, atI_0, atI_1, atI_2, strL_nil, strL_cons, cut_from1, cut_from2, gLen_s, gLen_l, gLen_t, gLen_f, gB_e, gI_e, gAdd_i, gAdd_s, gAdd_l, gAdd_t, gMul_i, gMul_l, gEq, gNe, gIn_s, gIn_l, gIn_t, gIsN_e, isN_non, isN_str, isN_tup, isN_int, isN_bl, isN_lst, gAll_e, gAny_e, gInt_i, gInt_b, gList_l, gList_t, gTuple_l, gTuple_t, gMin, gMax, gIx_l, gIx_t, gIx_f, gIx_s, gSl_l, gSl_f, gSl_t, gSl_s, sizeLine_eq, CDiv]
    refine ⟨by omega, by omega, by omega, fun n2 p l1 hp hs => ?_⟩
    unfold later at l1
    simp only at l1
    have fin : ∀ b : Bool, ((m - 1) / 2).toNat < 2 * k ∧ (m - 1) / 2 ≤ 40 ∧ n2.n + 300 * ((m - 1) / 2).toNat ≤ 600000000 ∧ ∀ (n3 : Gh) (r : Pl), later n2 n3 (300 * ((m - 1) / 2).toNat + 20) → r.ok → r.spell.length ≤ max ((m - 1) / 2).toNat 1 → R n3 (.d (.tup [.str (if b then q "offer" else q "pick"), p.d, r.d])) := fun b => by
      refine ⟨by omega, by omega, by omega, fun n3 r l2 hr hs2 => ?_⟩
      unfold later at l2
      exact hR n3 (.two b p r) ⟨by omega, by omega⟩ ⟨hp, hr⟩ (by simp [Pl.spell]; omega)
    rcases hw with rfl | rfl
    · exact ⟨_, atI_0 _ _, fin false⟩
    · exact ⟨_, atI_1 _ _ _, fin true⟩
  simp only [wEnd]
  refine wIfS_sym (decide (w = 6)) (fun P h => ?_) (fun z => ?_) (fun z => ?_)
  · exact t_eq rfl h
  · unfold F__law_plan F__law_names_of
    simp [wSeq, wIfS_T, wIfS_F, wIfE_T, wIfE_F, wOrT, wAndT, wNot, wTest, wCall, wCons, wNil, wVar, wC, wChain, wRet, wRetN, wEnd, wOp, wSet, wLst, wTup, wFn, wIt, wNotV, wAndV, wOrA, wSl, wPart, wPart0, wSrc, wSrcPut, wJoin, wSplit, wPartn, wAsg, wgTup, wgCons, wgNil, wgN, wApp, wExt, wDrop, wNever, wFz, wSSet, wLSet, wPwW, wPwP, wPwInc, wMakePW, wMeth, wSetPop, wAugI, wRng1, wRng2, wTrue, wipeD, startD, poOf, and_assoc, gIsi_e, tyS_non, tyS_bl, tyS_int, tyS_str, tyS_tup, tyS_lst, tyS_dct, kitB_1, kitB_2, kitB_3, kitB_4, kitB_5, kitB_6, kitB_7, kitB_8, kitB_9, kitB_10, kitB_11, kitB_12, kitB_13, kitB_14, kitB_15, kitB_16, kitB_17, kitB_18, kitB_19, kitB_20, kitB_21, kitB_22, vw_d, vw_n, vw_b, lst_l, val_d, val_l, arg_d, arg_n, arg_b, dat_d, dat_n, dat_b, out_d, out_n, out_b, vwA_d, vwA_b, vwAs_nil, vwAs_d, vwAs_b, ardat_nil, ardat_d, txts_l, txts_t, seq_l, seq_t, seq_f, seq_s, put_d, put_n, truth_str, truth_bl, truth_tup, truth_lst, sfit_str, sfit_bl, sfit_tup, sfit_lst, frzS, eqv_int, eqv_str, eqv_bl, plain_str, plain_int, plain_bl, plain_non, plain_tup, plain_lst, plains_nil, plains_cons, py_str, py_int, py_bl, py_non, py_tup, py_lst, pys_nil, pys_cons, dep_str, dep_int, dep_bl, dep_non, dep_tup, dep_lst, depA_nil, depA_cons, flat_str, flat_int, atI_0, atI_1, atI_2, strL_nil, strL_cons, cut_from1, cut_from2, gLen_s, gLen_l, gLen_t, gLen_f, gB_e, gI_e, gAdd_i, gAdd_s, gAdd_l, gAdd_t, gMul_i, gMul_l, gEq, gNe, gIn_s, gIn_l, gIn_t, gIsN_e, isN_non, isN_str, isN_tup, isN_int, isN_bl, isN_lst, gAll_e, gAny_e, gInt_i, gInt_b, gList_l, gList_t, gTuple_l, gTuple_t, gMin, gMax, gIx_l, gIx_t, gIx_f, gIx_s, gSl_l, gSl_f, gSl_t, gSl_s, sizeLine_eq, CDiv, namesD]
    refine ⟨by omega, fun n2 ys l1 oy => ⟨by omega, by omega, by unfold later at l1; simp only at l1; omega, fun n3 p l2 hp hs => ⟨by omega, by omega, by unfold later at l1 l2; simp only at l1 l2; omega, fun n4 r l3 hr hs2 => ?_⟩⟩⟩
    unfold later at l1 l2 l3
    simp only at l1 l2 l3
    exact hR n4 (.beside ys p r) ⟨by omega, by omega⟩ ⟨oy, hp, hr⟩ (by simp [Pl.spell]; omega)
  simp only [wEnd]
  refine wIfS_sym (decide (w = 7)) (fun P h => ?_) (fun z => ?_) (fun z => ?_)
  · exact t_eq rfl h
  · unfold F__law_plan F__law_names_of
    simp [wSeq, wIfS_T, wIfS_F, wIfE_T, wIfE_F, wOrT, wAndT, wNot, wTest, wCall, wCons, wNil, wVar, wC, wChain, wRet, wRetN, wEnd, wOp, wSet, wLst, wTup, wFn, wIt, wNotV, wAndV, wOrA, wSl, wPart, wPart0, wSrc, wSrcPut, wJoin, wSplit, wPartn, wAsg, wgTup, wgCons, wgNil, wgN, wApp, wExt, wDrop, wNever, wFz, wSSet, wLSet, wPwW, wPwP, wPwInc, wMakePW, wMeth, wSetPop, wAugI, wRng1, wRng2, wTrue, wipeD, startD, poOf, and_assoc, gIsi_e, tyS_non, tyS_bl, tyS_int, tyS_str, tyS_tup, tyS_lst, tyS_dct, kitB_1, kitB_2, kitB_3, kitB_4, kitB_5, kitB_6, kitB_7, kitB_8, kitB_9, kitB_10, kitB_11, kitB_12, kitB_13, kitB_14, kitB_15, kitB_16, kitB_17, kitB_18, kitB_19, kitB_20, kitB_21, kitB_22, vw_d, vw_n, vw_b, lst_l, val_d, val_l, arg_d, arg_n, arg_b, dat_d, dat_n, dat_b, out_d, out_n, out_b, vwA_d, vwA_b, vwAs_nil, vwAs_d, vwAs_b, ardat_nil, ardat_d, txts_l, txts_t, seq_l, seq_t, seq_f, seq_s, put_d, put_n, truth_str, truth_bl, truth_tup, truth_lst, sfit_str, sfit_bl, sfit_tup, sfit_lst, frzS, eqv_int, eqv_str, eqv_bl, plain_str, plain_int, plain_bl, plain_non, plain_tup, plain_lst, plains_nil, plains_cons, py_str, py_int, py_bl, py_non, py_tup, py_lst, pys_nil, pys_cons, dep_str, dep_int, dep_bl, dep_non, dep_tup, dep_lst, depA_nil, depA_cons, flat_str, flat_int, atI_0, atI_1, atI_2, strL_nil, strL_cons, cut_from1, cut_from2, gLen_s, gLen_l, gLen_t, gLen_f, gB_e, gI_e, gAdd_i, gAdd_s, gAdd_l, gAdd_t, gMul_i, gMul_l, gEq, gNe, gIn_s, gIn_l, gIn_t, gIsN_e, isN_non, isN_str, isN_tup, isN_int, isN_bl, isN_lst, gAll_e, gAny_e, gInt_i, gInt_b, gList_l, gList_t, gTuple_l, gTuple_t, gMin, gMax, gIx_l, gIx_t, gIx_f, gIx_s, gSl_l, gSl_f, gSl_t, gSl_s, sizeLine_eq, CDiv, namesD]
    refine ⟨by omega, fun n2 ys l1 oy => ⟨by omega, by omega, by unfold later at l1; simp only at l1; omega, fun n3 p l2 hp hs => ?_⟩⟩
    unfold later at l1 l2
    simp only at l1 l2
    exact hR n3 (.hide ys p) ⟨by omega, by omega⟩ ⟨oy, hp⟩ (by simp [Pl.spell]; omega)
  simp only [wEnd]
  refine wIfS_sym (decide (w = 8)) (fun P h => ?_) (fun z => ?_) (fun z => ?_)
  · exact t_eq rfl h
  · unfold F__law_plan F__law_pairs_of
    simp [wSeq, wIfS_T, wIfS_F, wIfE_T, wIfE_F, wOrT, wAndT, wNot, wTest, wCall, wCons, wNil, wVar, wC, wChain, wRet, wRetN, wEnd, wOp, wSet, wLst, wTup, wFn, wIt, wNotV, wAndV, wOrA, wSl, wPart, wPart0, wSrc, wSrcPut, wJoin, wSplit, wPartn, wAsg, wgTup, wgCons, wgNil, wgN, wApp, wExt, wDrop, wNever, wFz, wSSet, wLSet, wPwW, wPwP, wPwInc, wMakePW, wMeth, wSetPop, wAugI, wRng1, wRng2, wTrue, wipeD, startD, poOf, and_assoc, gIsi_e, tyS_non, tyS_bl, tyS_int, tyS_str, tyS_tup, tyS_lst, tyS_dct, kitB_1, kitB_2, kitB_3, kitB_4, kitB_5, kitB_6, kitB_7, kitB_8, kitB_9, kitB_10, kitB_11, kitB_12, kitB_13, kitB_14, kitB_15, kitB_16, kitB_17, kitB_18, kitB_19, kitB_20, kitB_21, kitB_22, vw_d, vw_n, vw_b, lst_l, val_d, val_l, arg_d, arg_n, arg_b, dat_d, dat_n, dat_b, out_d, out_n, out_b, vwA_d, vwA_b, vwAs_nil, vwAs_d, vwAs_b, ardat_nil, ardat_d, txts_l, txts_t, seq_l, seq_t, seq_f, seq_s, put_d, put_n, truth_str, truth_bl, truth_tup, truth_lst, sfit_str, sfit_bl, sfit_tup, sfit_lst, frzS, eqv_int, eqv_str, eqv_bl, plain_str, plain_int, plain_bl, plain_non, plain_tup, plain_lst, plains_nil, plains_cons, py_str, py_int, py_bl, py_non, py_tup, py_lst, pys_nil, pys_cons, dep_str, dep_int, dep_bl, dep_non, dep_tup, dep_lst, depA_nil, depA_cons, flat_str, flat_int, atI_0, atI_1, atI_2, strL_nil, strL_cons, cut_from1, cut_from2, gLen_s, gLen_l, gLen_t, gLen_f, gB_e, gI_e, gAdd_i, gAdd_s, gAdd_l, gAdd_t, gMul_i, gMul_l, gEq, gNe, gIn_s, gIn_l, gIn_t, gIsN_e, isN_non, isN_str, isN_tup, isN_int, isN_bl, isN_lst, gAll_e, gAny_e, gInt_i, gInt_b, gList_l, gList_t, gTuple_l, gTuple_t, gMin, gMax, gIx_l, gIx_t, gIx_f, gIx_s, gSl_l, gSl_f, gSl_t, gSl_s, sizeLine_eq, CDiv, pairsD]
    refine ⟨by omega, fun n2 ps l1 oy => ⟨by omega, by omega, by unfold later at l1; simp only at l1; omega, fun n3 p l2 hp hs => ?_⟩⟩
    unfold later at l1 l2
    simp only at l1 l2
    exact hR n3 (.ren ps p) ⟨by omega, by omega⟩ ⟨oy, hp⟩ (by simp [Pl.spell]; omega)
  simp only [wEnd]
  have fin : ∀ (n2 : Gh) (s : List Nat), later n n2 14 → isSg s = true → (m - 2).toNat < 2 * k ∧ m - 2 ≤ 40 ∧ n2.n + 300 * (m - 2).toNat ≤ 600000000 ∧ ∀ (n3 : Gh) (p : Pl), later n2 n3 (300 * (m - 2).toNat + 20) → p.ok → p.spell.length ≤ max (m - 2).toNat 1 → R n3 (.d (.tup [.str (q "ahead"), .str s, p.d])) := fun n2 s l1 hs => by
    unfold later at l1
    refine ⟨by omega, by omega, by omega, fun n3 p l2 hp hs2 => ?_⟩
    unfold later at l2
    exact hR n3 (.ahead s p) ⟨by omega, by omega⟩ ⟨hs, hp⟩ (by simp [Pl.spell]; omega)
  unfold F__law_plan F__law_word F__law_one
  simp [wSeq, wIfS_T, wIfS_F, wIfE_T, wIfE_F, wOrT, wAndT, wNot, wTest, wCall, wCons, wNil, wVar, wC, wChain, wRet, wRetN, wEnd, wOp, wSet, wLst, wTup, wFn, wIt, wNotV, wAndV, wOrA, wSl, wPart, wPart0, wSrc, wSrcPut, wJoin, wSplit, wPartn, wAsg, wgTup, wgCons, wgNil, wgN, wApp, wExt, wDrop, wNever, wFz, wSSet, wLSet, wPwW, wPwP, wPwInc, wMakePW, wMeth, wSetPop, wAugI, wRng1, wRng2, wTrue, wipeD, startD, poOf, and_assoc, gIsi_e, tyS_non, tyS_bl, tyS_int, tyS_str, tyS_tup, tyS_lst, tyS_dct, kitB_1, kitB_2, kitB_3, kitB_4, kitB_5, kitB_6, kitB_7, kitB_8, kitB_9, kitB_10, kitB_11, kitB_12, kitB_13, kitB_14, kitB_15, kitB_16, kitB_17, kitB_18, kitB_19, kitB_20, kitB_21, kitB_22, vw_d, vw_n, vw_b, lst_l, val_d, val_l, arg_d, arg_n, arg_b, dat_d, dat_n, dat_b, out_d, out_n, out_b, vwA_d, vwA_b, vwAs_nil, vwAs_d, vwAs_b, ardat_nil, ardat_d, txts_l, txts_t, seq_l, seq_t, seq_f, seq_s, put_d, put_n, truth_str, truth_bl, truth_tup, truth_lst, sfit_str, sfit_bl, sfit_tup, sfit_lst, frzS, eqv_int, eqv_str, eqv_bl, plain_str, plain_int, plain_bl, plain_non, plain_tup, plain_lst, plains_nil, plains_cons, py_str, py_int, py_bl, py_non, py_tup, py_lst, pys_nil, pys_cons, dep_str, dep_int, dep_bl, dep_non, dep_tup, dep_lst, depA_nil, depA_cons, flat_str, flat_int, atI_0, atI_1, atI_2, strL_nil, strL_cons, cut_from1, cut_from2, gLen_s, gLen_l, gLen_t, gLen_f, gB_e, gI_e, gAdd_i, gAdd_s, gAdd_l, gAdd_t, gMul_i, gMul_l, gEq, gNe, gIn_s, gIn_l, gIn_t, gIsN_e, isN_non, isN_str, isN_tup, isN_int, isN_bl, isN_lst, gAll_e, gAny_e, gInt_i, gInt_b, gList_l, gList_t, gTuple_l, gTuple_t, gMin, gMax, gIx_l, gIx_t, gIx_f, gIx_s, gSl_l, gSl_f, gSl_t, gSl_s, sizeLine_eq]
  refine ⟨by omega, fun n2 x l1 hx => ?_⟩
  unfold later at l1
  simp only at l1
  have lt : later n { n := n2.n + 1, at_ := n2.at_, pl := n2.pl } 14 := ⟨by (first | omega | (simp; done) | (simp; omega)), by (first | omega | (simp; done) | (simp; omega))⟩
  have f1 := fin _ (q ".") lt (by decide +kernel)
  have f2 := fin _ x lt (by unfold isSg; rw [(isPn_ne hx).1]; rfl)
  have f3 := fin _ (q "stop") lt (by decide +kernel)
  have f4 := fin _ (q "a") lt (by decide +kernel)
  exact ⟨by omega, f1.1, f1.2.1, f1.2.2.1, f1.2.2.2, f2.1, f2.2.1, f2.2.2.1, f2.2.2.2, f3.1, f3.2.1, f3.2.2.1, f3.2.2.2, f4⟩
end DL
namespace DL
open PySem PySem.Spec PyProof.Rows L2
theorem sq0 (k : Nat) : seqIndex? 0 (k + 1) = some 0 := by
  unfold seqIndex?
  simp
theorem lwords_loop {k : Nat} {p : Pl} (hp : p.ok) (hd : p.deep ≤ k + 1) (hl : p.spell.length ≤ 16000000) {n : Gh} {R : Gh → Rs → Prop} {PX : PX0} {s4 s5 s6 : Sl} {found rest : List D} (hf : found = p.head.map .str) (hs : rest = p.subs.map Pl.d) (hR : R n (.n (p.spell.map .str))) :
    wFz 2 (wSeq (wFor (wIt (wVar 2)) (wgN 3) (wSet 1 (wOp gAdd (wVar 1) (wFn (F_words_of k) 1 (wCons (wVar 3) wNil))))) (wRet (wVar 1))) [.d p.d, .l found, .l rest, .u, s4, s5, s6] n (poOf R PX) := by
  subst hf hs
  simp only [wFz, wSeq]
  show wFor _ _ _ [.d p.d, .l (p.head.map .str), .d (.lst (p.subs.map Pl.d)), .u, s4, s5, s6] n _
  refine wFor_i p.subs Pl.d n (fun i δ m => m = n ∧ ∃ s3, δ = [.d p.d, .l ((p.head ++ (p.subs.take i).flatMap Pl.spell).map .str), .d (.lst (p.subs.map Pl.d)), s3, s4, s5, s6]) (fun P' h => ?_) ⟨rfl, .u, by simp⟩ ?_ ?_
  · simp [wSeq, wIfS_T, wIfS_F, wIfE_T, wIfE_F, wOrT, wAndT, wNot, wTest, wCall, wCons, wNil, wVar, wC, wChain, wRet, wRetN, wEnd, wOp, wSet, wLst, wTup, wFn, wIt, wNotV, wAndV, wOrA, wSl, wPart, wPart0, wSrc, wSrcPut, wJoin, wSplit, wPartn, wAsg, wgTup, wgCons, wgNil, wgN, wApp, wExt, wDrop, wNever, wFz, wSSet, wLSet, wPwW, wPwP, wPwInc, wMakePW, wMeth, wSetPop, wAugI, wRng1, wRng2, wTrue, wipeD, startD, poOf, and_assoc, gIsi_e, tyS_non, tyS_bl, tyS_int, tyS_str, tyS_tup, tyS_lst, tyS_dct, kitB_1, kitB_2, kitB_3, kitB_4, kitB_5, kitB_6, kitB_7, kitB_8, kitB_9, kitB_10, kitB_11, kitB_12, kitB_13, kitB_14, kitB_15, kitB_16, kitB_17, kitB_18, kitB_19, kitB_20, kitB_21, kitB_22, vw_d, vw_n, vw_b, lst_l, val_d, val_l, arg_d, arg_n, arg_b, dat_d, dat_n, dat_b, out_d, out_n, out_b, vwA_d, vwA_b, vwAs_nil, vwAs_d, vwAs_b, ardat_nil, ardat_d, txts_l, txts_t, seq_l, seq_t, seq_f, seq_s, put_d, put_n, truth_str, truth_bl, truth_tup, truth_lst, sfit_str, sfit_bl, sfit_tup, sfit_lst, frzS, eqv_int, eqv_str, eqv_bl, plain_str, plain_int, plain_bl, plain_non, plain_tup, plain_lst, plains_nil, plains_cons, py_str, py_int, py_bl, py_non, py_tup, py_lst, pys_nil, pys_cons, dep_str, dep_int, dep_bl, dep_non, dep_tup, dep_lst, depA_nil, depA_cons, flat_str, flat_int, atI_0, atI_1, atI_2, strL_nil, strL_cons, cut_from1, cut_from2, gLen_s, gLen_l, gLen_t, gLen_f, gB_e, gI_e, gAdd_i, gAdd_s, gAdd_l, gAdd_t, gMul_i, gMul_l, gEq, gNe, gIn_s, gIn_l, gIn_t, gIsN_e, isN_non, isN_str, isN_tup, isN_int, isN_bl, isN_lst, gAll_e, gAny_e, gInt_i, gInt_b, gList_l, gList_t, gTuple_l, gTuple_t, gMin, gMax, gIx_l, gIx_t, gIx_f, gIx_s, gSl_l, gSl_f, gSl_t, gSl_s]
    exact h
  · rintro i δ m x hx ⟨rfl, s3, rfl⟩
    obtain ⟨h1, h2⟩ := subs_ok hp (List.mem_of_getElem? hx)
    unfold F_words_of
    simp [wSeq, wIfS_T, wIfS_F, wIfE_T, wIfE_F, wOrT, wAndT, wNot, wTest, wCall, wCons, wNil, wVar, wC, wChain, wRet, wRetN, wEnd, wOp, wSet, wLst, wTup, wFn, wIt, wNotV, wAndV, wOrA, wSl, wPart, wPart0, wSrc, wSrcPut, wJoin, wSplit, wPartn, wAsg, wgTup, wgCons, wgNil, wgN, wApp, wExt, wDrop, wNever, wFz, wSSet, wLSet, wPwW, wPwP, wPwInc, wMakePW, wMeth, wSetPop, wAugI, wRng1, wRng2, wTrue, wipeD, startD, poOf, and_assoc, gIsi_e, tyS_non, tyS_bl, tyS_int, tyS_str, tyS_tup, tyS_lst, tyS_dct, kitB_1, kitB_2, kitB_3, kitB_4, kitB_5, kitB_6, kitB_7, kitB_8, kitB_9, kitB_10, kitB_11, kitB_12, kitB_13, kitB_14, kitB_15, kitB_16, kitB_17, kitB_18, kitB_19, kitB_20, kitB_21, kitB_22, vw_d, vw_n, vw_b, lst_l, val_d, val_l, arg_d, arg_n, arg_b, dat_d, dat_n, dat_b, out_d, out_n, out_b, vwA_d, vwA_b, vwAs_nil, vwAs_d, vwAs_b, ardat_nil, ardat_d, txts_l, txts_t, seq_l, seq_t, seq_f, seq_s, put_d, put_n, truth_str, truth_bl, truth_tup, truth_lst, sfit_str, sfit_bl, sfit_tup, sfit_lst, frzS, eqv_int, eqv_str, eqv_bl, plain_str, plain_int, plain_bl, plain_non, plain_tup, plain_lst, plains_nil, plains_cons, py_str, py_int, py_bl, py_non, py_tup, py_lst, pys_nil, pys_cons, dep_str, dep_int, dep_bl, dep_non, dep_tup, dep_lst, depA_nil, depA_cons, flat_str, flat_int, atI_0, atI_1, atI_2, strL_nil, strL_cons, cut_from1, cut_from2, gLen_s, gLen_l, gLen_t, gLen_f, gB_e, gI_e, gAdd_i, gAdd_s, gAdd_l, gAdd_t, gMul_i, gMul_l, gEq, gNe, gIn_s, gIn_l, gIn_t, gIsN_e, isN_non, isN_str, isN_tup, isN_int, isN_bl, isN_lst, gAll_e, gAny_e, gInt_i, gInt_b, gList_l, gList_t, gTuple_l, gTuple_t, gMin, gMax, gIx_l, gIx_t, gIx_f, gIx_s, gSl_l, gSl_f, gSl_t, gSl_s]
    have e := spell_eq p
    have ef := flat_take Pl.spell hx
    have le := flat_len_le Pl.spell p.subs (i + 1)
    have l1 : (p.head ++ (p.subs.take (i + 1)).flatMap Pl.spell).length ≤ p.spell.length := by
      rw [e, List.length_append, List.length_append]
      omega
    rw [ef] at l1
    simp only [List.length_append] at l1
    refine ⟨x, rfl, h1, by omega, by omega, ?_⟩
    refine ⟨by rw [sizeLine_eq]; simp only [List.length_append, List.length_map, List.length_flatMap, List.map_take] at *; omega, ?_⟩
    rw [ef]
    simp
  · rintro δ m ⟨rfl, s3, rfl⟩
    simp [wSeq, wIfS_T, wIfS_F, wIfE_T, wIfE_F, wOrT, wAndT, wNot, wTest, wCall, wCons, wNil, wVar, wC, wChain, wRet, wRetN, wEnd, wOp, wSet, wLst, wTup, wFn, wIt, wNotV, wAndV, wOrA, wSl, wPart, wPart0, wSrc, wSrcPut, wJoin, wSplit, wPartn, wAsg, wgTup, wgCons, wgNil, wgN, wApp, wExt, wDrop, wNever, wFz, wSSet, wLSet, wPwW, wPwP, wPwInc, wMakePW, wMeth, wSetPop, wAugI, wRng1, wRng2, wTrue, wipeD, startD, poOf, and_assoc, gIsi_e, tyS_non, tyS_bl, tyS_int, tyS_str, tyS_tup, tyS_lst, tyS_dct, kitB_1, kitB_2, kitB_3, kitB_4, kitB_5, kitB_6, kitB_7, kitB_8, kitB_9, kitB_10, kitB_11, kitB_12, kitB_13, kitB_14, kitB_15, kitB_16, kitB_17, kitB_18, kitB_19, kitB_20, kitB_21, kitB_22, vw_d, vw_n, vw_b, lst_l, val_d, val_l, arg_d, arg_n, arg_b, dat_d, dat_n, dat_b, out_d, out_n, out_b, vwA_d, vwA_b, vwAs_nil, vwAs_d, vwAs_b, ardat_nil, ardat_d, txts_l, txts_t, seq_l, seq_t, seq_f, seq_s, put_d, put_n, truth_str, truth_bl, truth_tup, truth_lst, sfit_str, sfit_bl, sfit_tup, sfit_lst, frzS, eqv_int, eqv_str, eqv_bl, plain_str, plain_int, plain_bl, plain_non, plain_tup, plain_lst, plains_nil, plains_cons, py_str, py_int, py_bl, py_non, py_tup, py_lst, pys_nil, pys_cons, dep_str, dep_int, dep_bl, dep_non, dep_tup, dep_lst, depA_nil, depA_cons, flat_str, flat_int, atI_0, atI_1, atI_2, strL_nil, strL_cons, cut_from1, cut_from2, gLen_s, gLen_l, gLen_t, gLen_f, gB_e, gI_e, gAdd_i, gAdd_s, gAdd_l, gAdd_t, gMul_i, gMul_l, gEq, gNe, gIn_s, gIn_l, gIn_t, gIsN_e, isN_non, isN_str, isN_tup, isN_int, isN_bl, isN_lst, gAll_e, gAny_e, gInt_i, gInt_b, gList_l, gList_t, gTuple_l, gTuple_t, gMin, gMax, gIx_l, gIx_t, gIx_f, gIx_s, gSl_l, gSl_f, gSl_t, gSl_s]
    have e := spell_eq p
    have := hR
    rw [e] at this
    simpa using this
theorem joinS_nil {ys : List (List Nat)} (h : ∀ y ∈ ys, y ≠ []) (e : joinS (q ",") ys = []) : ys = [] := by
  cases ys with
  | nil => rfl
  | cons y r =>
    exfalso
    have hy := h y List.mem_cons_self
    cases r with
    | nil => rw [joinS] at e; exact hy e
    | cons z t =>
      rw [joinS] at e
      exact hy (List.append_eq_nil_iff.mp e).1
theorem or_fin {ys : List (List Nat)} (h : ∀ y ∈ ys, y ≠ []) (hl : (namesT ys).length ≤ 180) (X : List Nat → Prop) (hX : X (namesT ys)) :
    (joinS (q ",") ys = [] ∧ (joinS (q ",") ys).length ≤ 16777216 ∧ X (q "-")) ∨ ¬joinS (q ",") ys = [] ∧ (joinS (q ",") ys).length ≤ 16777216 ∧ X (joinS (q ",") ys) := by
  by_cases ne : ys = []
  · subst ne
    exact .inl ⟨rfl, by simp [joinS], hX⟩
  · have e : namesT ys = joinS (q ",") ys := by
      unfold namesT
      rw [if_neg (by simpa using ne)]
    rw [e] at hX hl
    exact .inr ⟨fun z => ne (joinS_nil h z), by omega, hX⟩
theorem nm_ne {y : List Nat} (h : isNm y = true) : y ≠ [] := fun e => by
  have := (isNm_len h).1
  rw [e] at this
  simp at this
theorem pairT_ne (p : List Nat × List Nat) : pairT p ≠ [] := fun e => by
  unfold pairT at e
  rw [q_gt] at e
  simp at e
theorem pu__law_words_of (k : Nat) : ∀ ds n R PX, ds.length = 1 → F_words_of (k + 1) ds n R PX → w__law_words_of (F_words_of k) (startD 7 ds) n (poOf R PXF0) := by
  rintro ds n R PX - ⟨p, rfl, hp, hd, hl, hR⟩
  have loop := fun (found rest : List D) (s4 s5 s6 : Sl) hf hs => lwords_loop (s4 := s4) (s5 := s5) (s6 := s6) (PX := PXF0) (found := found) (rest := rest) hp hd hl hf hs hR
  unfold w__law_words_of
  generalize hL : wFz 2 (wSeq (wFor (wIt (wVar 2)) (wgN 3) (wSet 1 (wOp gAdd (wVar 1) (wFn (F_words_of k) 1 (wCons (wVar 3) wNil))))) (wRet (wVar 1))) = L at loop ⊢
  cases p with
  | stop =>
    have loop := loop _ _ .u .u .u rfl rfl
    simp only [Pl.d, Pl.head, Pl.subs] at loop ⊢
    simp [wSeq, wIfS_T, wIfS_F, wIfE_T, wIfE_F, wOrT, wAndT, wNot, wTest, wCall, wCons, wNil, wVar, wC, wChain, wRet, wRetN, wEnd, wOp, wSet, wLst, wTup, wFn, wIt, wNotV, wAndV, wOrA, wSl, wPart, wPart0, wSrc, wSrcPut, wJoin, wSplit, wPartn, wAsg, wgTup, wgCons, wgNil, wgN, wApp, wExt, wDrop, wNever, wFz, wSSet, wLSet, wPwW, wPwP, wPwInc, wMakePW, wMeth, wSetPop, wAugI, wRng1, wRng2, wTrue, wipeD, startD, poOf, and_assoc, gIsi_e, tyS_non, tyS_bl, tyS_int, tyS_str, tyS_tup, tyS_lst, tyS_dct, kitB_1, kitB_2, kitB_3, kitB_4, kitB_5, kitB_6, kitB_7, kitB_8, kitB_9, kitB_10, kitB_11, kitB_12, kitB_13, kitB_14, kitB_15, kitB_16, kitB_17, kitB_18, kitB_19, kitB_20, kitB_21, kitB_22, vw_d, vw_n, vw_b, lst_l, val_d, val_l, arg_d, arg_n, arg_b, dat_d, dat_n, dat_b, out_d, out_n, out_b, vwA_d, vwA_b, vwAs_nil, vwAs_d, vwAs_b, ardat_nil, ardat_d, txts_l, txts_t, seq_l, seq_t, seq_f, seq_s, put_d, put_n, truth_str, truth_bl, truth_tup, truth_lst, sfit_str, sfit_bl, sfit_tup, sfit_lst, frzS, eqv_int, eqv_str, eqv_bl, plain_str, plain_int, plain_bl, plain_non, plain_tup, plain_lst, plains_nil, plains_cons, py_str, py_int, py_bl, py_non, py_tup, py_lst, pys_nil, pys_cons, dep_str, dep_int, dep_bl, dep_non, dep_tup, dep_lst, depA_nil, depA_cons, flat_str, flat_int, atI_0, atI_1, atI_2, strL_nil, strL_cons, cut_from1, cut_from2, gLen_s, gLen_l, gLen_t, gLen_f, gB_e, gI_e, gAdd_i, gAdd_s, gAdd_l, gAdd_t, gMul_i, gMul_l, gEq, gNe, gIn_s, gIn_l, gIn_t, gIsN_e, isN_non, isN_str, isN_tup, isN_int, isN_bl, isN_lst, gAll_e, gAny_e, gInt_i, gInt_b, gList_l, gList_t, gTuple_l, gTuple_t, gMin, gMax, gIx_l, gIx_t, gIx_f, gIx_s, gSl_l, gSl_f, gSl_t, gSl_s, sizeLine_eq, q_stop, q_part, q_ahead, q_pick, q_offer, q_beside, q_hide, q_rename]
    simpa [poOf, q_stop] using loop
  | part x =>
    simp only [Pl.d]
    simp [wSeq, wIfS_T, wIfS_F, wIfE_T, wIfE_F, wOrT, wAndT, wNot, wTest, wCall, wCons, wNil, wVar, wC, wChain, wRet, wRetN, wEnd, wOp, wSet, wLst, wTup, wFn, wIt, wNotV, wAndV, wOrA, wSl, wPart, wPart0, wSrc, wSrcPut, wJoin, wSplit, wPartn, wAsg, wgTup, wgCons, wgNil, wgN, wApp, wExt, wDrop, wNever, wFz, wSSet, wLSet, wPwW, wPwP, wPwInc, wMakePW, wMeth, wSetPop, wAugI, wRng1, wRng2, wTrue, wipeD, startD, poOf, and_assoc, gIsi_e, tyS_non, tyS_bl, tyS_int, tyS_str, tyS_tup, tyS_lst, tyS_dct, kitB_1, kitB_2, kitB_3, kitB_4, kitB_5, kitB_6, kitB_7, kitB_8, kitB_9, kitB_10, kitB_11, kitB_12, kitB_13, kitB_14, kitB_15, kitB_16, kitB_17, kitB_18, kitB_19, kitB_20, kitB_21, kitB_22, vw_d, vw_n, vw_b, lst_l, val_d, val_l, arg_d, arg_n, arg_b, dat_d, dat_n, dat_b, out_d, out_n, out_b, vwA_d, vwA_b, vwAs_nil, vwAs_d, vwAs_b, ardat_nil, ardat_d, txts_l, txts_t, seq_l, seq_t, seq_f, seq_s, put_d, put_n, truth_str, truth_bl, truth_tup, truth_lst, sfit_str, sfit_bl, sfit_tup, sfit_lst, frzS, eqv_int, eqv_str, eqv_bl, plain_str, plain_int, plain_bl, plain_non, plain_tup, plain_lst, plains_nil, plains_cons, py_str, py_int, py_bl, py_non, py_tup, py_lst, pys_nil, pys_cons, dep_str, dep_int, dep_bl, dep_non, dep_tup, dep_lst, depA_nil, depA_cons, flat_str, flat_int, atI_0, atI_1, atI_2, strL_nil, strL_cons, cut_from1, cut_from2, gLen_s, gLen_l, gLen_t, gLen_f, gB_e, gI_e, gAdd_i, gAdd_s, gAdd_l, gAdd_t, gMul_i, gMul_l, gEq, gNe, gIn_s, gIn_l, gIn_t, gIsN_e, isN_non, isN_str, isN_tup, isN_int, isN_bl, isN_lst, gAll_e, gAny_e, gInt_i, gInt_b, gList_l, gList_t, gTuple_l, gTuple_t, gMin, gMax, gIx_l, gIx_t, gIx_f, gIx_s, gSl_l, gSl_f, gSl_t, gSl_s, sizeLine_eq, q_stop, q_part, q_ahead, q_pick, q_offer, q_beside, q_hide, q_rename]
    simpa [Pl.spell] using hR
  | ahead s p =>
    have loop := loop _ _ (.d (.str s)) .u .u rfl rfl
    simp only [Pl.d, Pl.head, Pl.subs] at loop ⊢
    simp [wSeq, wIfS_T, wIfS_F, wIfE_T, wIfE_F, wOrT, wAndT, wNot, wTest, wCall, wCons, wNil, wVar, wC, wChain, wRet, wRetN, wEnd, wOp, wSet, wLst, wTup, wFn, wIt, wNotV, wAndV, wOrA, wSl, wPart, wPart0, wSrc, wSrcPut, wJoin, wSplit, wPartn, wAsg, wgTup, wgCons, wgNil, wgN, wApp, wExt, wDrop, wNever, wFz, wSSet, wLSet, wPwW, wPwP, wPwInc, wMakePW, wMeth, wSetPop, wAugI, wRng1, wRng2, wTrue, wipeD, startD, poOf, and_assoc, gIsi_e, tyS_non, tyS_bl, tyS_int, tyS_str, tyS_tup, tyS_lst, tyS_dct, kitB_1, kitB_2, kitB_3, kitB_4, kitB_5, kitB_6, kitB_7, kitB_8, kitB_9, kitB_10, kitB_11, kitB_12, kitB_13, kitB_14, kitB_15, kitB_16, kitB_17, kitB_18, kitB_19, kitB_20, kitB_21, kitB_22, vw_d, vw_n, vw_b, lst_l, val_d, val_l, arg_d, arg_n, arg_b, dat_d, dat_n, dat_b, out_d, out_n, out_b, vwA_d, vwA_b, vwAs_nil, vwAs_d, vwAs_b, ardat_nil, ardat_d, txts_l, txts_t, seq_l, seq_t, seq_f, seq_s, put_d, put_n, truth_str, truth_bl, truth_tup, truth_lst, sfit_str, sfit_bl, sfit_tup, sfit_lst, frzS, eqv_int, eqv_str, eqv_bl, plain_str, plain_int, plain_bl, plain_non, plain_tup, plain_lst, plains_nil, plains_cons, py_str, py_int, py_bl, py_non, py_tup, py_lst, pys_nil, pys_cons, dep_str, dep_int, dep_bl, dep_non, dep_tup, dep_lst, depA_nil, depA_cons, flat_str, flat_int, atI_0, atI_1, atI_2, strL_nil, strL_cons, cut_from1, cut_from2, gLen_s, gLen_l, gLen_t, gLen_f, gB_e, gI_e, gAdd_i, gAdd_s, gAdd_l, gAdd_t, gMul_i, gMul_l, gEq, gNe, gIn_s, gIn_l, gIn_t, gIsN_e, isN_non, isN_str, isN_tup, isN_int, isN_bl, isN_lst, gAll_e, gAny_e, gInt_i, gInt_b, gList_l, gList_t, gTuple_l, gTuple_t, gMin, gMax, gIx_l, gIx_t, gIx_f, gIx_s, gSl_l, gSl_f, gSl_t, gSl_s, sq0, sizeLine_eq, q_stop, q_part, q_ahead, q_pick, q_offer, q_beside, q_hide, q_rename]
    simpa [poOf, q_ahead] using loop
  | two b p r =>
    have loop := loop _ _ .u .u .u rfl rfl
    simp only [Pl.d, Pl.head, Pl.subs] at loop ⊢
    cases b <;> (simp [wSeq, wIfS_T, wIfS_F, wIfE_T, wIfE_F, wOrT, wAndT, wNot, wTest, wCall, wCons, wNil, wVar, wC, wChain, wRet, wRetN, wEnd, wOp, wSet, wLst, wTup, wFn, wIt, wNotV, wAndV, wOrA, wSl, wPart, wPart0, wSrc, wSrcPut, wJoin, wSplit, wPartn, wAsg, wgTup, wgCons, wgNil, wgN, wApp, wExt, wDrop, wNever, wFz, wSSet, wLSet, wPwW, wPwP, wPwInc, wMakePW, wMeth, wSetPop, wAugI, wRng1, wRng2, wTrue, wipeD, startD, poOf, and_assoc, gIsi_e, tyS_non, tyS_bl, tyS_int, tyS_str, tyS_tup, tyS_lst, tyS_dct, kitB_1, kitB_2, kitB_3, kitB_4, kitB_5, kitB_6, kitB_7, kitB_8, kitB_9, kitB_10, kitB_11, kitB_12, kitB_13, kitB_14, kitB_15, kitB_16, kitB_17, kitB_18, kitB_19, kitB_20, kitB_21, kitB_22, vw_d, vw_n, vw_b, lst_l, val_d, val_l, arg_d, arg_n, arg_b, dat_d, dat_n, dat_b, out_d, out_n, out_b, vwA_d, vwA_b, vwAs_nil, vwAs_d, vwAs_b, ardat_nil, ardat_d, txts_l, txts_t, seq_l, seq_t, seq_f, seq_s, put_d, put_n, truth_str, truth_bl, truth_tup, truth_lst, sfit_str, sfit_bl, sfit_tup, sfit_lst, frzS, eqv_int, eqv_str, eqv_bl, plain_str, plain_int, plain_bl, plain_non, plain_tup, plain_lst, plains_nil, plains_cons, py_str, py_int, py_bl, py_non, py_tup, py_lst, pys_nil, pys_cons, dep_str, dep_int, dep_bl, dep_non, dep_tup, dep_lst, depA_nil, depA_cons, flat_str, flat_int, atI_0, atI_1, atI_2, strL_nil, strL_cons, cut_from1, cut_from2, gLen_s, gLen_l, gLen_t, gLen_f, gB_e, gI_e, gAdd_i, gAdd_s, gAdd_l, gAdd_t, gMul_i, gMul_l, gEq, gNe, gIn_s, gIn_l, gIn_t, gIsN_e, isN_non, isN_str, isN_tup, isN_int, isN_bl, isN_lst, gAll_e, gAny_e, gInt_i, gInt_b, gList_l, gList_t, gTuple_l, gTuple_t, gMin, gMax, gIx_l, gIx_t, gIx_f, gIx_s, gSl_l, gSl_f, gSl_t, gSl_s, sizeLine_eq, q_stop, q_part, q_ahead, q_pick, q_offer, q_beside, q_hide, q_rename]; simpa [poOf, q_offer, q_pick] using loop)
  | beside ys p r =>
    have loop := loop _ _ (.d (.str (namesT ys))) .u .u rfl rfl
    simp only [Pl.d, Pl.head, Pl.subs, namesD] at loop ⊢
    simp [wSeq, wIfS_T, wIfS_F, wIfE_T, wIfE_F, wOrT, wAndT, wNot, wTest, wCall, wCons, wNil, wVar, wC, wChain, wRet, wRetN, wEnd, wOp, wSet, wLst, wTup, wFn, wIt, wNotV, wAndV, wOrA, wSl, wPart, wPart0, wSrc, wSrcPut, wJoin, wSplit, wPartn, wAsg, wgTup, wgCons, wgNil, wgN, wApp, wExt, wDrop, wNever, wFz, wSSet, wLSet, wPwW, wPwP, wPwInc, wMakePW, wMeth, wSetPop, wAugI, wRng1, wRng2, wTrue, wipeD, startD, poOf, and_assoc, gIsi_e, tyS_non, tyS_bl, tyS_int, tyS_str, tyS_tup, tyS_lst, tyS_dct, kitB_1, kitB_2, kitB_3, kitB_4, kitB_5, kitB_6, kitB_7, kitB_8, kitB_9, kitB_10, kitB_11, kitB_12, kitB_13, kitB_14, kitB_15, kitB_16, kitB_17, kitB_18, kitB_19, kitB_20, kitB_21, kitB_22, vw_d, vw_n, vw_b, lst_l, val_d, val_l, arg_d, arg_n, arg_b, dat_d, dat_n, dat_b, out_d, out_n, out_b, vwA_d, vwA_b, vwAs_nil, vwAs_d, vwAs_b, ardat_nil, ardat_d, txts_l, txts_t, seq_l, seq_t, seq_f, seq_s, put_d, put_n, truth_str, truth_bl, truth_tup, truth_lst, sfit_str, sfit_bl, sfit_tup, sfit_lst, frzS, eqv_int, eqv_str, eqv_bl, plain_str, plain_int, plain_bl, plain_non, plain_tup, plain_lst, plains_nil, plains_cons, py_str, py_int, py_bl, py_non, py_tup, py_lst, pys_nil, pys_cons, dep_str, dep_int, dep_bl, dep_non, dep_tup, dep_lst, depA_nil, depA_cons, flat_str, flat_int, atI_0, atI_1, atI_2, strL_nil, strL_cons, cut_from1, cut_from2, gLen_s, gLen_l, gLen_t, gLen_f, gB_e, gI_e, gAdd_i, gAdd_s, gAdd_l, gAdd_t, gMul_i, gMul_l, gEq, gNe, gIn_s, gIn_l, gIn_t, gIsN_e, isN_non, isN_str, isN_tup, isN_int, isN_bl, isN_lst, gAll_e, gAny_e, gInt_i, gInt_b, gList_l, gList_t, gTuple_l, gTuple_t, gMin, gMax, gIx_l, gIx_t, gIx_f, gIx_s, gSl_l, gSl_f, gSl_t, gSl_s, sq0, sizeLine_eq, q_stop, q_part, q_ahead, q_pick, q_offer, q_beside, q_hide, q_rename]
    have hs := okN_small hp.1
    refine ⟨ys, D.strL_map _, by rw [q_comma]; simpa [small] using hs, ?_⟩
    exact or_fin (fun y hy => nm_ne (hp.1.1 y hy)) (by have := okN_len hp.1; omega) (fun z => L [Sl.d (D.tup [D.str [98, 101, 115, 105, 100, 101], D.tup (List.map D.str ys), p.d, r.d]),
      Sl.l [D.str [98, 101, 115, 105, 100, 101], D.str z], Sl.l [p.d, r.d], Sl.u, Sl.d (D.str z), Sl.u, Sl.u] n _) (by simpa [poOf, q_beside] using loop)
  | hide ys p =>
    have loop := loop _ _ (.d (.str (namesT ys))) .u .u rfl rfl
    simp only [Pl.d, Pl.head, Pl.subs, namesD] at loop ⊢
    simp [wSeq, wIfS_T, wIfS_F, wIfE_T, wIfE_F, wOrT, wAndT, wNot, wTest, wCall, wCons, wNil, wVar, wC, wChain, wRet, wRetN, wEnd, wOp, wSet, wLst, wTup, wFn, wIt, wNotV, wAndV, wOrA, wSl, wPart, wPart0, wSrc, wSrcPut, wJoin, wSplit, wPartn, wAsg, wgTup, wgCons, wgNil, wgN, wApp, wExt, wDrop, wNever, wFz, wSSet, wLSet, wPwW, wPwP, wPwInc, wMakePW, wMeth, wSetPop, wAugI, wRng1, wRng2, wTrue, wipeD, startD, poOf, and_assoc, gIsi_e, tyS_non, tyS_bl, tyS_int, tyS_str, tyS_tup, tyS_lst, tyS_dct, kitB_1, kitB_2, kitB_3, kitB_4, kitB_5, kitB_6, kitB_7, kitB_8, kitB_9, kitB_10, kitB_11, kitB_12, kitB_13, kitB_14, kitB_15, kitB_16, kitB_17, kitB_18, kitB_19, kitB_20, kitB_21, kitB_22, vw_d, vw_n, vw_b, lst_l, val_d, val_l, arg_d, arg_n, arg_b, dat_d, dat_n, dat_b, out_d, out_n, out_b, vwA_d, vwA_b, vwAs_nil, vwAs_d, vwAs_b, ardat_nil, ardat_d, txts_l, txts_t, seq_l, seq_t, seq_f, seq_s, put_d, put_n, truth_str, truth_bl, truth_tup, truth_lst, sfit_str, sfit_bl, sfit_tup, sfit_lst, frzS, eqv_int, eqv_str, eqv_bl, plain_str, plain_int, plain_bl, plain_non, plain_tup, plain_lst, plains_nil, plains_cons, py_str, py_int, py_bl, py_non, py_tup, py_lst, pys_nil, pys_cons, dep_str, dep_int, dep_bl, dep_non, dep_tup, dep_lst, depA_nil, depA_cons, flat_str, flat_int, atI_0, atI_1, atI_2, strL_nil, strL_cons, cut_from1, cut_from2, gLen_s, gLen_l, gLen_t, gLen_f, gB_e, gI_e, gAdd_i, gAdd_s, gAdd_l, gAdd_t, gMul_i, gMul_l, gEq, gNe, gIn_s, gIn_l, gIn_t, gIsN_e, isN_non, isN_str, isN_tup, isN_int, isN_bl, isN_lst, gAll_e, gAny_e, gInt_i, gInt_b, gList_l, gList_t, gTuple_l, gTuple_t, gMin, gMax, gIx_l, gIx_t, gIx_f, gIx_s, gSl_l, gSl_f, gSl_t, gSl_s, sq0, sizeLine_eq, q_stop, q_part, q_ahead, q_pick, q_offer, q_beside, q_hide, q_rename]
    have hs := okN_small hp.1
    refine ⟨ys, D.strL_map _, by rw [q_comma]; simpa [small] using hs, ?_⟩
    exact or_fin (fun y hy => nm_ne (hp.1.1 y hy)) (by have := okN_len hp.1; omega) (fun z => L [Sl.d (D.tup [D.str [104, 105, 100, 101], D.tup (List.map D.str ys), p.d]),
      Sl.l [D.str [104, 105, 100, 101], D.str z], Sl.l [p.d], Sl.u, Sl.d (D.str z), Sl.u, Sl.u] n _) (by simpa [poOf, q_hide] using loop)
  | ren ps p =>
    have loop := loop _ _ (.d (.str (namesT (ps.map pairT)))) .u .u rfl rfl
    simp only [Pl.d, Pl.head, Pl.subs, pairsD] at loop ⊢
    simp [wSeq, wIfS_T, wIfS_F, wIfE_T, wIfE_F, wOrT, wAndT, wNot, wTest, wCall, wCons, wNil, wVar, wC, wChain, wRet, wRetN, wEnd, wOp, wSet, wLst, wTup, wFn, wIt, wNotV, wAndV, wOrA, wSl, wPart, wPart0, wSrc, wSrcPut, wJoin, wSplit, wPartn, wAsg, wgTup, wgCons, wgNil, wgN, wApp, wExt, wDrop, wNever, wFz, wSSet, wLSet, wPwW, wPwP, wPwInc, wMakePW, wMeth, wSetPop, wAugI, wRng1, wRng2, wTrue, wipeD, startD, poOf, and_assoc, gIsi_e, tyS_non, tyS_bl, tyS_int, tyS_str, tyS_tup, tyS_lst, tyS_dct, kitB_1, kitB_2, kitB_3, kitB_4, kitB_5, kitB_6, kitB_7, kitB_8, kitB_9, kitB_10, kitB_11, kitB_12, kitB_13, kitB_14, kitB_15, kitB_16, kitB_17, kitB_18, kitB_19, kitB_20, kitB_21, kitB_22, vw_d, vw_n, vw_b, lst_l, val_d, val_l, arg_d, arg_n, arg_b, dat_d, dat_n, dat_b, out_d, out_n, out_b, vwA_d, vwA_b, vwAs_nil, vwAs_d, vwAs_b, ardat_nil, ardat_d, txts_l, txts_t, seq_l, seq_t, seq_f, seq_s, put_d, put_n, truth_str, truth_bl, truth_tup, truth_lst, sfit_str, sfit_bl, sfit_tup, sfit_lst, frzS, eqv_int, eqv_str, eqv_bl, plain_str, plain_int, plain_bl, plain_non, plain_tup, plain_lst, plains_nil, plains_cons, py_str, py_int, py_bl, py_non, py_tup, py_lst, pys_nil, pys_cons, dep_str, dep_int, dep_bl, dep_non, dep_tup, dep_lst, depA_nil, depA_cons, flat_str, flat_int, atI_0, atI_1, atI_2, strL_nil, strL_cons, cut_from1, cut_from2, gLen_s, gLen_l, gLen_t, gLen_f, gB_e, gI_e, gAdd_i, gAdd_s, gAdd_l, gAdd_t, gMul_i, gMul_l, gEq, gNe, gIn_s, gIn_l, gIn_t, gIsN_e, isN_non, isN_str, isN_tup, isN_int, isN_bl, isN_lst, gAll_e, gAny_e, gInt_i, gInt_b, gList_l, gList_t, gTuple_l, gTuple_t, gMin, gMax, gIx_l, gIx_t, gIx_f, gIx_s, gSl_l, gSl_f, gSl_t, gSl_s, sq0, sizeLine_eq, q_stop, q_part, q_ahead, q_pick, q_offer, q_beside, q_hide, q_rename]
    refine wLc_map ps pairD (fun p => .str (pairT p)) (fun P' h => by simp [wSeq, wIfS_T, wIfS_F, wIfE_T, wIfE_F, wOrT, wAndT, wNot, wTest, wCall, wCons, wNil, wVar, wC, wChain, wRet, wRetN, wEnd, wOp, wSet, wLst, wTup, wFn, wIt, wNotV, wAndV, wOrA, wSl, wPart, wPart0, wSrc, wSrcPut, wJoin, wSplit, wPartn, wAsg, wgTup, wgCons, wgNil, wgN, wApp, wExt, wDrop, wNever, wFz, wSSet, wLSet, wPwW, wPwP, wPwInc, wMakePW, wMeth, wSetPop, wAugI, wRng1, wRng2, wTrue, wipeD, startD, poOf, and_assoc, gIsi_e, tyS_non, tyS_bl, tyS_int, tyS_str, tyS_tup, tyS_lst, tyS_dct, kitB_1, kitB_2, kitB_3, kitB_4, kitB_5, kitB_6, kitB_7, kitB_8, kitB_9, kitB_10, kitB_11, kitB_12, kitB_13, kitB_14, kitB_15, kitB_16, kitB_17, kitB_18, kitB_19, kitB_20, kitB_21, kitB_22, vw_d, vw_n, vw_b, lst_l, val_d, val_l, arg_d, arg_n, arg_b, dat_d, dat_n, dat_b, out_d, out_n, out_b, vwA_d, vwA_b, vwAs_nil, vwAs_d, vwAs_b, ardat_nil, ardat_d, txts_l, txts_t, seq_l, seq_t, seq_f, seq_s, put_d, put_n, truth_str, truth_bl, truth_tup, truth_lst, sfit_str, sfit_bl, sfit_tup, sfit_lst, frzS, eqv_int, eqv_str, eqv_bl, plain_str, plain_int, plain_bl, plain_non, plain_tup, plain_lst, plains_nil, plains_cons, py_str, py_int, py_bl, py_non, py_tup, py_lst, pys_nil, pys_cons, dep_str, dep_int, dep_bl, dep_non, dep_tup, dep_lst, depA_nil, depA_cons, flat_str, flat_int, atI_0, atI_1, atI_2, strL_nil, strL_cons, cut_from1, cut_from2, gLen_s, gLen_l, gLen_t, gLen_f, gB_e, gI_e, gAdd_i, gAdd_s, gAdd_l, gAdd_t, gMul_i, gMul_l, gEq, gNe, gIn_s, gIn_l, gIn_t, gIsN_e, isN_non, isN_str, isN_tup, isN_int, isN_bl, isN_lst, gAll_e, gAny_e, gInt_i, gInt_b, gList_l, gList_t, gTuple_l, gTuple_t, gMin, gMax, gIx_l, gIx_t, gIx_f, gIx_s, gSl_l, gSl_f, gSl_t, gSl_s]; exact h) (by rw [sizeLine_eq]; have := hp.1.2.2; omega) (fun c hc K1 h K0 => ?_) ?_
    · obtain ⟨h1, h2⟩ := hp.1.1 c hc
      have l1 := (isNm_len h1).2
      have l2 := (isNm_len h2).2
      unfold pairD
      simp [wSeq, wIfS_T, wIfS_F, wIfE_T, wIfE_F, wOrT, wAndT, wNot, wTest, wCall, wCons, wNil, wVar, wC, wChain, wRet, wRetN, wEnd, wOp, wSet, wLst, wTup, wFn, wIt, wNotV, wAndV, wOrA, wSl, wPart, wPart0, wSrc, wSrcPut, wJoin, wSplit, wPartn, wAsg, wgTup, wgCons, wgNil, wgN, wApp, wExt, wDrop, wNever, wFz, wSSet, wLSet, wPwW, wPwP, wPwInc, wMakePW, wMeth, wSetPop, wAugI, wRng1, wRng2, wTrue, wipeD, startD, poOf, and_assoc, gIsi_e, tyS_non, tyS_bl, tyS_int, tyS_str, tyS_tup, tyS_lst, tyS_dct, kitB_1, kitB_2, kitB_3, kitB_4, kitB_5, kitB_6, kitB_7, kitB_8, kitB_9, kitB_10, kitB_11, kitB_12, kitB_13, kitB_14, kitB_15, kitB_16, kitB_17, kitB_18, kitB_19, kitB_20, kitB_21, kitB_22, vw_d, vw_n, vw_b, lst_l, val_d, val_l, arg_d, arg_n, arg_b, dat_d, dat_n, dat_b, out_d, out_n, out_b, vwA_d, vwA_b, vwAs_nil, vwAs_d, vwAs_b, ardat_nil, ardat_d, txts_l, txts_t, seq_l, seq_t, seq_f, seq_s, put_d, put_n, truth_str, truth_bl, truth_tup, truth_lst, sfit_str, sfit_bl, sfit_tup, sfit_lst, frzS, eqv_int, eqv_str, eqv_bl, plain_str, plain_int, plain_bl, plain_non, plain_tup, plain_lst, plains_nil, plains_cons, py_str, py_int, py_bl, py_non, py_tup, py_lst, pys_nil, pys_cons, dep_str, dep_int, dep_bl, dep_non, dep_tup, dep_lst, depA_nil, depA_cons, flat_str, flat_int, atI_0, atI_1, atI_2, strL_nil, strL_cons, cut_from1, cut_from2, gLen_s, gLen_l, gLen_t, gLen_f, gB_e, gI_e, gAdd_i, gAdd_s, gAdd_l, gAdd_t, gMul_i, gMul_l, gEq, gNe, gIn_s, gIn_l, gIn_t, gIsN_e, isN_non, isN_str, isN_tup, isN_int, isN_bl, isN_lst, gAll_e, gAny_e, gInt_i, gInt_b, gList_l, gList_t, gTuple_l, gTuple_t, gMin, gMax, gIx_l, gIx_t, gIx_f, gIx_s, gSl_l, gSl_f, gSl_t, gSl_s]
      refine ⟨by rw [q_gt, sizeLine_eq]; simp; omega, by rw [q_gt, sizeLine_eq]; simp; omega, ?_⟩
      simpa [pairT] using h
    · simp [wSeq, wIfS_T, wIfS_F, wIfE_T, wIfE_F, wOrT, wAndT, wNot, wTest, wCall, wCons, wNil, wVar, wC, wChain, wRet, wRetN, wEnd, wOp, wSet, wLst, wTup, wFn, wIt, wNotV, wAndV, wOrA, wSl, wPart, wPart0, wSrc, wSrcPut, wJoin, wSplit, wPartn, wAsg, wgTup, wgCons, wgNil, wgN, wApp, wExt, wDrop, wNever, wFz, wSSet, wLSet, wPwW, wPwP, wPwInc, wMakePW, wMeth, wSetPop, wAugI, wRng1, wRng2, wTrue, wipeD, startD, poOf, and_assoc, gIsi_e, tyS_non, tyS_bl, tyS_int, tyS_str, tyS_tup, tyS_lst, tyS_dct, kitB_1, kitB_2, kitB_3, kitB_4, kitB_5, kitB_6, kitB_7, kitB_8, kitB_9, kitB_10, kitB_11, kitB_12, kitB_13, kitB_14, kitB_15, kitB_16, kitB_17, kitB_18, kitB_19, kitB_20, kitB_21, kitB_22, vw_d, vw_n, vw_b, lst_l, val_d, val_l, arg_d, arg_n, arg_b, dat_d, dat_n, dat_b, out_d, out_n, out_b, vwA_d, vwA_b, vwAs_nil, vwAs_d, vwAs_b, ardat_nil, ardat_d, txts_l, txts_t, seq_l, seq_t, seq_f, seq_s, put_d, put_n, truth_str, truth_bl, truth_tup, truth_lst, sfit_str, sfit_bl, sfit_tup, sfit_lst, frzS, eqv_int, eqv_str, eqv_bl, plain_str, plain_int, plain_bl, plain_non, plain_tup, plain_lst, plains_nil, plains_cons, py_str, py_int, py_bl, py_non, py_tup, py_lst, pys_nil, pys_cons, dep_str, dep_int, dep_bl, dep_non, dep_tup, dep_lst, depA_nil, depA_cons, flat_str, flat_int, atI_0, atI_1, atI_2, strL_nil, strL_cons, cut_from1, cut_from2, gLen_s, gLen_l, gLen_t, gLen_f, gB_e, gI_e, gAdd_i, gAdd_s, gAdd_l, gAdd_t, gMul_i, gMul_l, gEq, gNe, gIn_s, gIn_l, gIn_t, gIsN_e, isN_non, isN_str, isN_tup, isN_int, isN_bl, isN_lst, gAll_e, gAny_e, gInt_i, gInt_b, gList_l, gList_t, gTuple_l, gTuple_t, gMin, gMax, gIx_l, gIx_t, gIx_f, gIx_s, gSl_l, gSl_f, gSl_t, gSl_s, sizeLine_eq]
      have hs := okP_small hp.1
      have emap : (ps.map fun p => D.str (pairT p)) = (ps.map pairT).map D.str := by simp
      rw [emap]
      refine ⟨ps.map pairT, D.strL_map _, by rw [q_comma]; simpa [small] using hs, ?_⟩
      exact or_fin (fun y hy => by obtain ⟨c, hc, rfl⟩ := List.mem_map.mp hy; exact pairT_ne c) (okP_len hp.1) (fun z => L [Sl.d (D.tup [D.str [114, 101, 110, 97, 109, 101], D.tup (List.map pairD ps), p.d]),
        Sl.l [D.str [114, 101, 110, 97, 109, 101], D.str z], Sl.l [p.d], Sl.u, Sl.d (D.str z), Sl.u, Sl.u] n _) (by simpa [poOf, q_rename] using loop)
end DL
namespace DL
open PySem PySem.Spec PyProof.Rows L2
theorem eqvAll_ints : ∀ ns : List Int, PyData.eqvAll (ns.map .int) (ns.map .int) = true
  | [] => rfl
  | n :: r => by rw [List.map_cons, PyData.eqvAll, eqvAll_ints r]; simp [PyData.eqv]
mutual
theorem py_refl : ∀ x : D, PyData.eqv x.py x.py = true
  | .non => by rw [D.py]; rfl
  | .bl _ => by rw [D.py]; simp [PyData.eqv]
  | .int _ => by rw [D.py]; simp [PyData.eqv]
  | .str _ => by rw [D.py]; simp [PyData.eqv]
  | .tup xs => by rw [D.py, PyData.eqv]; exact pys_refl xs
  | .lst xs => by rw [D.py, PyData.eqv]; exact pys_refl xs
  | .frl ns => by rw [D.py, PyData.eqv]; exact eqvAll_ints ns
  | .src => by rw [D.py]; rfl
  | .pw _ _ _ => by rw [D.py]; rfl
  | .obj _ _ => by rw [D.py]; rfl
  | .dct _ => by rw [D.py]; rfl
  | .fn _ => by rw [D.py]; rfl
  | .ty _ => by rw [D.py]; rfl
theorem pys_refl : ∀ xs : List D, PyData.eqvAll (D.pys xs) (D.pys xs) = true
  | [] => by rw [D.pys]; rfl
  | x :: xs => by rw [D.pys, PyData.eqvAll, py_refl x, pys_refl xs]; rfl
end
theorem eqv_refl' (x : D) : x.eqv x = true := py_refl x
theorem plains_names (ys : List (List Nat)) : (namesD ys).plain = true := by unfold namesD; rw [plain_tup]; exact plains_strs ys
theorem plains_pairs : ∀ ps : List (List Nat × List Nat), D.plains (ps.map pairD) = true
  | [] => by rw [List.map_nil, plains_nil]
  | p :: r => by rw [List.map_cons, plains_cons, plains_pairs r]; simp [pairD, plain_tup, plains_cons, plains_nil, plain_str]
theorem depA_pairs : ∀ ps : List (List Nat × List Nat), PyData.depthAll (D.pys (ps.map pairD)) ≤ 1
  | [] => by rw [List.map_nil, pys_nil, depA_nil]; decide
  | p :: r => by
    have ih := depA_pairs r
    rw [List.map_cons, pys_cons, depA_cons]
    have : (pairD p).py.depth = 1 := by simp [pairD, py_tup, pys_cons, pys_nil, dep_tup, depA_cons, depA_nil, py_str, dep_str]
    omega
theorem plain_d : ∀ p : Pl, p.d.plain = true
  | .stop => by simp [Pl.d, plain_tup, plains_cons, plains_nil, plain_str]
  | .part x => by simp [Pl.d, plain_tup, plains_cons, plains_nil, plain_str]
  | .ahead s p => by simp [Pl.d, plain_tup, plains_cons, plains_nil, plain_str, plain_d p]
  | .two b p r => by simp [Pl.d, plain_tup, plains_cons, plains_nil, plain_str, plain_d p, plain_d r]
  | .beside ys p r => by simp [Pl.d, plain_tup, plains_cons, plains_nil, plain_str, plain_d p, plain_d r, plains_names]
  | .hide ys p => by simp [Pl.d, plain_tup, plains_cons, plains_nil, plain_str, plain_d p, plains_names]
  | .ren ps p => by simp [Pl.d, pairsD, plain_tup, plains_cons, plains_nil, plain_str, plain_d p, plains_pairs]
theorem dep_d : ∀ p : Pl, p.d.py.depth ≤ p.deep + 2
  | .stop => by simp [Pl.d, Pl.deep, py_tup, pys_cons, pys_nil, dep_tup, depA_cons, depA_nil, py_str, dep_str]
  | .part x => by simp [Pl.d, Pl.deep, py_tup, pys_cons, pys_nil, dep_tup, depA_cons, depA_nil, py_str, dep_str]
  | .ahead s p => by have := dep_d p; simp [Pl.d, Pl.deep, py_tup, pys_cons, pys_nil, dep_tup, depA_cons, depA_nil, py_str, dep_str]; omega
  | .two b p r => by have := dep_d p; have := dep_d r; simp [Pl.d, Pl.deep, py_tup, pys_cons, pys_nil, dep_tup, depA_cons, depA_nil, py_str, dep_str]; omega
  | .beside ys p r => by have := dep_d p; have := dep_d r; simp [Pl.d, namesD, depA_strs, Pl.deep, py_tup, pys_cons, pys_nil, dep_tup, depA_cons, depA_nil, py_str, dep_str]; omega
  | .hide ys p => by have := dep_d p; simp [Pl.d, namesD, depA_strs, Pl.deep, py_tup, pys_cons, pys_nil, dep_tup, depA_cons, depA_nil, py_str, dep_str]; omega
  | .ren ps p => by have := dep_d p; have := depA_pairs ps; simp [Pl.d, pairsD, Pl.deep, py_tup, pys_cons, pys_nil, dep_tup, depA_cons, depA_nil, py_str, dep_str]; omega
theorem pu__law_inner : ∀ ds n R PX, ds.length = 1 → F_plans_in ds n R PX → w__law_inner (startD 1 ds) n (poOf R PXF0) := by
  rintro ds n R PX - ⟨p, rfl, hR⟩
  unfold w__law_inner
  cases p with
  | two b p r => cases b <;> (simp only [Pl.d, Pl.subs] at *; simp [wSeq, wIfS_T, wIfS_F, wIfE_T, wIfE_F, wOrT, wAndT, wNot, wTest, wCall, wCons, wNil, wVar, wC, wChain, wRet, wRetN, wEnd, wOp, wSet, wLst, wTup, wFn, wIt, wNotV, wAndV, wOrA, wSl, wPart, wPart0, wSrc, wSrcPut, wJoin, wSplit, wPartn, wAsg, wgTup, wgCons, wgNil, wgN, wApp, wExt, wDrop, wNever, wFz, wSSet, wLSet, wPwW, wPwP, wPwInc, wMakePW, wMeth, wSetPop, wAugI, wRng1, wRng2, wTrue, wipeD, startD, poOf, and_assoc, gIsi_e, tyS_non, tyS_bl, tyS_int, tyS_str, tyS_tup, tyS_lst, tyS_dct, kitB_1, kitB_2, kitB_3, kitB_4, kitB_5, kitB_6, kitB_7, kitB_8, kitB_9, kitB_10, kitB_11, kitB_12, kitB_13, kitB_14, kitB_15, kitB_16, kitB_17, kitB_18, kitB_19, kitB_20, kitB_21, kitB_22, vw_d, vw_n, vw_b, lst_l, val_d, val_l, arg_d, arg_n, arg_b, dat_d, dat_n, dat_b, out_d, out_n, out_b, vwA_d, vwA_b, vwAs_nil, vwAs_d, vwAs_b, ardat_nil, ardat_d, txts_l, txts_t, seq_l, seq_t, seq_f, seq_s, put_d, put_n, truth_str, truth_bl, truth_tup, truth_lst, sfit_str, sfit_bl, sfit_tup, sfit_lst, frzS, eqv_int, eqv_str, eqv_bl, plain_str, plain_int, plain_bl, plain_non, plain_tup, plain_lst, plains_nil, plains_cons, py_str, py_int, py_bl, py_non, py_tup, py_lst, pys_nil, pys_cons, dep_str, dep_int, dep_bl, dep_non, dep_tup, dep_lst, depA_nil, depA_cons, flat_str, flat_int, atI_0, atI_1, atI_2, strL_nil, strL_cons, cut_from1, cut_from2, gLen_s, gLen_l, gLen_t, gLen_f, gB_e, gI_e, gAdd_i, gAdd_s, gAdd_l, gAdd_t, gMul_i, gMul_l, gEq, gNe, gIn_s, gIn_l, gIn_t, gIsN_e, isN_non, isN_str, isN_tup, isN_int, isN_bl, isN_lst, gAll_e, gAny_e, gInt_i, gInt_b, gList_l, gList_t, gTuple_l, gTuple_t, gMin, gMax, gIx_l, gIx_t, gIx_f, gIx_s, gSl_l, gSl_f, gSl_t, gSl_s, sizeLine_eq, q_stop, q_part, q_ahead, q_pick, q_offer, q_beside, q_hide, q_rename]; simpa using hR)
  | _ => simp only [Pl.d, Pl.subs, namesD, pairsD] at *; simp [wSeq, wIfS_T, wIfS_F, wIfE_T, wIfE_F, wOrT, wAndT, wNot, wTest, wCall, wCons, wNil, wVar, wC, wChain, wRet, wRetN, wEnd, wOp, wSet, wLst, wTup, wFn, wIt, wNotV, wAndV, wOrA, wSl, wPart, wPart0, wSrc, wSrcPut, wJoin, wSplit, wPartn, wAsg, wgTup, wgCons, wgNil, wgN, wApp, wExt, wDrop, wNever, wFz, wSSet, wLSet, wPwW, wPwP, wPwInc, wMakePW, wMeth, wSetPop, wAugI, wRng1, wRng2, wTrue, wipeD, startD, poOf, and_assoc, gIsi_e, tyS_non, tyS_bl, tyS_int, tyS_str, tyS_tup, tyS_lst, tyS_dct, kitB_1, kitB_2, kitB_3, kitB_4, kitB_5, kitB_6, kitB_7, kitB_8, kitB_9, kitB_10, kitB_11, kitB_12, kitB_13, kitB_14, kitB_15, kitB_16, kitB_17, kitB_18, kitB_19, kitB_20, kitB_21, kitB_22, vw_d, vw_n, vw_b, lst_l, val_d, val_l, arg_d, arg_n, arg_b, dat_d, dat_n, dat_b, out_d, out_n, out_b, vwA_d, vwA_b, vwAs_nil, vwAs_d, vwAs_b, ardat_nil, ardat_d, txts_l, txts_t, seq_l, seq_t, seq_f, seq_s, put_d, put_n, truth_str, truth_bl, truth_tup, truth_lst, sfit_str, sfit_bl, sfit_tup, sfit_lst, frzS, eqv_int, eqv_str, eqv_bl, plain_str, plain_int, plain_bl, plain_non, plain_tup, plain_lst, plains_nil, plains_cons, py_str, py_int, py_bl, py_non, py_tup, py_lst, pys_nil, pys_cons, dep_str, dep_int, dep_bl, dep_non, dep_tup, dep_lst, depA_nil, depA_cons, flat_str, flat_int, atI_0, atI_1, atI_2, strL_nil, strL_cons, cut_from1, cut_from2, gLen_s, gLen_l, gLen_t, gLen_f, gB_e, gI_e, gAdd_i, gAdd_s, gAdd_l, gAdd_t, gMul_i, gMul_l, gEq, gNe, gIn_s, gIn_l, gIn_t, gIsN_e, isN_non, isN_str, isN_tup, isN_int, isN_bl, isN_lst, gAll_e, gAny_e, gInt_i, gInt_b, gList_l, gList_t, gTuple_l, gTuple_t, gMin, gMax, gIx_l, gIx_t, gIx_f, gIx_s, gSl_l, gSl_f, gSl_t, gSl_s, sizeLine_eq, q_stop, q_part, q_ahead, q_pick, q_offer, q_beside, q_hide, q_rename]; simpa using hR
theorem pu__law_named (k : Nat) : ∀ ds n R PX, ds.length = 1 → F_parts_from_left (k + 1) ds n R PX → w__law_named F_plans_in (F_parts_from_left k) (startD 3 ds) n (poOf R PXF0) := by
  rintro ds n R PX - ⟨p, rfl, hp, hd, hl, hR⟩
  unfold w__law_named
  by_cases hx : ∃ x, p = .part x
  · obtain ⟨x, rfl⟩ := hx
    simp only [Pl.d]
    simp [wSeq, wIfS_T, wIfS_F, wIfE_T, wIfE_F, wOrT, wAndT, wNot, wTest, wCall, wCons, wNil, wVar, wC, wChain, wRet, wRetN, wEnd, wOp, wSet, wLst, wTup, wFn, wIt, wNotV, wAndV, wOrA, wSl, wPart, wPart0, wSrc, wSrcPut, wJoin, wSplit, wPartn, wAsg, wgTup, wgCons, wgNil, wgN, wApp, wExt, wDrop, wNever, wFz, wSSet, wLSet, wPwW, wPwP, wPwInc, wMakePW, wMeth, wSetPop, wAugI, wRng1, wRng2, wTrue, wipeD, startD, poOf, and_assoc, gIsi_e, tyS_non, tyS_bl, tyS_int, tyS_str, tyS_tup, tyS_lst, tyS_dct, kitB_1, kitB_2, kitB_3, kitB_4, kitB_5, kitB_6, kitB_7, kitB_8, kitB_9, kitB_10, kitB_11, kitB_12, kitB_13, kitB_14, kitB_15, kitB_16, kitB_17, kitB_18, kitB_19, kitB_20, kitB_21, kitB_22, vw_d, vw_n, vw_b, lst_l, val_d, val_l, arg_d, arg_n, arg_b, dat_d, dat_n, dat_b, out_d, out_n, out_b, vwA_d, vwA_b, vwAs_nil, vwAs_d, vwAs_b, ardat_nil, ardat_d, txts_l, txts_t, seq_l, seq_t, seq_f, seq_s, put_d, put_n, truth_str, truth_bl, truth_tup, truth_lst, sfit_str, sfit_bl, sfit_tup, sfit_lst, frzS, eqv_int, eqv_str, eqv_bl, plain_str, plain_int, plain_bl, plain_non, plain_tup, plain_lst, plains_nil, plains_cons, py_str, py_int, py_bl, py_non, py_tup, py_lst, pys_nil, pys_cons, dep_str, dep_int, dep_bl, dep_non, dep_tup, dep_lst, depA_nil, depA_cons, flat_str, flat_int, atI_0, atI_1, atI_2, strL_nil, strL_cons, cut_from1, cut_from2, gLen_s, gLen_l, gLen_t, gLen_f, gB_e, gI_e, gAdd_i, gAdd_s, gAdd_l, gAdd_t, gMul_i, gMul_l, gEq, gNe, gIn_s, gIn_l, gIn_t, gIsN_e, isN_non, isN_str, isN_tup, isN_int, isN_bl, isN_lst, gAll_e, gAny_e, gInt_i, gInt_b, gList_l, gList_t, gTuple_l, gTuple_t, gMin, gMax, gIx_l, gIx_t, gIx_f, gIx_s, gSl_l, gSl_f, gSl_t, gSl_s, q_part, sizeLine_eq]
    simpa [Pl.leaves] using hR
  have hx : ∀ x, p ≠ .part x := fun x e => hx ⟨x, e⟩
  simp only [wSeq]
  refine wIfS_sym false (fun P h => ?_) (fun z => by cases z) fun _ => ?_
  · cases p with
    | part x => exact absurd rfl (hx x)
    | two b p r => cases b <;> (simp only [Pl.d]; simp [wSeq, wIfS_T, wIfS_F, wIfE_T, wIfE_F, wOrT, wAndT, wNot, wTest, wCall, wCons, wNil, wVar, wC, wChain, wRet, wRetN, wEnd, wOp, wSet, wLst, wTup, wFn, wIt, wNotV, wAndV, wOrA, wSl, wPart, wPart0, wSrc, wSrcPut, wJoin, wSplit, wPartn, wAsg, wgTup, wgCons, wgNil, wgN, wApp, wExt, wDrop, wNever, wFz, wSSet, wLSet, wPwW, wPwP, wPwInc, wMakePW, wMeth, wSetPop, wAugI, wRng1, wRng2, wTrue, wipeD, startD, poOf, and_assoc, gIsi_e, tyS_non, tyS_bl, tyS_int, tyS_str, tyS_tup, tyS_lst, tyS_dct, kitB_1, kitB_2, kitB_3, kitB_4, kitB_5, kitB_6, kitB_7, kitB_8, kitB_9, kitB_10, kitB_11, kitB_12, kitB_13, kitB_14, kitB_15, kitB_16, kitB_17, kitB_18, kitB_19, kitB_20, kitB_21, kitB_22, vw_d, vw_n, vw_b, lst_l, val_d, val_l, arg_d, arg_n, arg_b, dat_d, dat_n, dat_b, out_d, out_n, out_b, vwA_d, vwA_b, vwAs_nil, vwAs_d, vwAs_b, ardat_nil, ardat_d, txts_l, txts_t, seq_l, seq_t, seq_f, seq_s, put_d, put_n, truth_str, truth_bl, truth_tup, truth_lst, sfit_str, sfit_bl, sfit_tup, sfit_lst, frzS, eqv_int, eqv_str, eqv_bl, plain_str, plain_int, plain_bl, plain_non, plain_tup, plain_lst, plains_nil, plains_cons, py_str, py_int, py_bl, py_non, py_tup, py_lst, pys_nil, pys_cons, dep_str, dep_int, dep_bl, dep_non, dep_tup, dep_lst, depA_nil, depA_cons, flat_str, flat_int, atI_0, atI_1, atI_2, strL_nil, strL_cons, cut_from1, cut_from2, gLen_s, gLen_l, gLen_t, gLen_f, gB_e, gI_e, gAdd_i, gAdd_s, gAdd_l, gAdd_t, gMul_i, gMul_l, gEq, gNe, gIn_s, gIn_l, gIn_t, gIsN_e, isN_non, isN_str, isN_tup, isN_int, isN_bl, isN_lst, gAll_e, gAny_e, gInt_i, gInt_b, gList_l, gList_t, gTuple_l, gTuple_t, gMin, gMax, gIx_l, gIx_t, gIx_f, gIx_s, gSl_l, gSl_f, gSl_t, gSl_s, q_part, q_pick, q_offer]; exact h)
    | _ => simp only [Pl.d, namesD, pairsD]; simp [wSeq, wIfS_T, wIfS_F, wIfE_T, wIfE_F, wOrT, wAndT, wNot, wTest, wCall, wCons, wNil, wVar, wC, wChain, wRet, wRetN, wEnd, wOp, wSet, wLst, wTup, wFn, wIt, wNotV, wAndV, wOrA, wSl, wPart, wPart0, wSrc, wSrcPut, wJoin, wSplit, wPartn, wAsg, wgTup, wgCons, wgNil, wgN, wApp, wExt, wDrop, wNever, wFz, wSSet, wLSet, wPwW, wPwP, wPwInc, wMakePW, wMeth, wSetPop, wAugI, wRng1, wRng2, wTrue, wipeD, startD, poOf, and_assoc, gIsi_e, tyS_non, tyS_bl, tyS_int, tyS_str, tyS_tup, tyS_lst, tyS_dct, kitB_1, kitB_2, kitB_3, kitB_4, kitB_5, kitB_6, kitB_7, kitB_8, kitB_9, kitB_10, kitB_11, kitB_12, kitB_13, kitB_14, kitB_15, kitB_16, kitB_17, kitB_18, kitB_19, kitB_20, kitB_21, kitB_22, vw_d, vw_n, vw_b, lst_l, val_d, val_l, arg_d, arg_n, arg_b, dat_d, dat_n, dat_b, out_d, out_n, out_b, vwA_d, vwA_b, vwAs_nil, vwAs_d, vwAs_b, ardat_nil, ardat_d, txts_l, txts_t, seq_l, seq_t, seq_f, seq_s, put_d, put_n, truth_str, truth_bl, truth_tup, truth_lst, sfit_str, sfit_bl, sfit_tup, sfit_lst, frzS, eqv_int, eqv_str, eqv_bl, plain_str, plain_int, plain_bl, plain_non, plain_tup, plain_lst, plains_nil, plains_cons, py_str, py_int, py_bl, py_non, py_tup, py_lst, pys_nil, pys_cons, dep_str, dep_int, dep_bl, dep_non, dep_tup, dep_lst, depA_nil, depA_cons, flat_str, flat_int, atI_0, atI_1, atI_2, strL_nil, strL_cons, cut_from1, cut_from2, gLen_s, gLen_l, gLen_t, gLen_f, gB_e, gI_e, gAdd_i, gAdd_s, gAdd_l, gAdd_t, gMul_i, gMul_l, gEq, gNe, gIn_s, gIn_l, gIn_t, gIsN_e, isN_non, isN_str, isN_tup, isN_int, isN_bl, isN_lst, gAll_e, gAny_e, gInt_i, gInt_b, gList_l, gList_t, gTuple_l, gTuple_t, gMin, gMax, gIx_l, gIx_t, gIx_f, gIx_s, gSl_l, gSl_f, gSl_t, gSl_s, q_part, q_stop, q_ahead, q_beside, q_hide, q_rename]; exact h
  simp only [wEnd]
  refine wSet_i (n' := n) (r := .n []) (fun P h => by simp [wSeq, wIfS_T, wIfS_F, wIfE_T, wIfE_F, wOrT, wAndT, wNot, wTest, wCall, wCons, wNil, wVar, wC, wChain, wRet, wRetN, wEnd, wOp, wSet, wLst, wTup, wFn, wIt, wNotV, wAndV, wOrA, wSl, wPart, wPart0, wSrc, wSrcPut, wJoin, wSplit, wPartn, wAsg, wgTup, wgCons, wgNil, wgN, wApp, wExt, wDrop, wNever, wFz, wSSet, wLSet, wPwW, wPwP, wPwInc, wMakePW, wMeth, wSetPop, wAugI, wRng1, wRng2, wTrue, wipeD, startD, poOf, and_assoc, gIsi_e, tyS_non, tyS_bl, tyS_int, tyS_str, tyS_tup, tyS_lst, tyS_dct, kitB_1, kitB_2, kitB_3, kitB_4, kitB_5, kitB_6, kitB_7, kitB_8, kitB_9, kitB_10, kitB_11, kitB_12, kitB_13, kitB_14, kitB_15, kitB_16, kitB_17, kitB_18, kitB_19, kitB_20, kitB_21, kitB_22, vw_d, vw_n, vw_b, lst_l, val_d, val_l, arg_d, arg_n, arg_b, dat_d, dat_n, dat_b, out_d, out_n, out_b, vwA_d, vwA_b, vwAs_nil, vwAs_d, vwAs_b, ardat_nil, ardat_d, txts_l, txts_t, seq_l, seq_t, seq_f, seq_s, put_d, put_n, truth_str, truth_bl, truth_tup, truth_lst, sfit_str, sfit_bl, sfit_tup, sfit_lst, frzS, eqv_int, eqv_str, eqv_bl, plain_str, plain_int, plain_bl, plain_non, plain_tup, plain_lst, plains_nil, plains_cons, py_str, py_int, py_bl, py_non, py_tup, py_lst, pys_nil, pys_cons, dep_str, dep_int, dep_bl, dep_non, dep_tup, dep_lst, depA_nil, depA_cons, flat_str, flat_int, atI_0, atI_1, atI_2, strL_nil, strL_cons, cut_from1, cut_from2, gLen_s, gLen_l, gLen_t, gLen_f, gB_e, gI_e, gAdd_i, gAdd_s, gAdd_l, gAdd_t, gMul_i, gMul_l, gEq, gNe, gIn_s, gIn_l, gIn_t, gIsN_e, isN_non, isN_str, isN_tup, isN_int, isN_bl, isN_lst, gAll_e, gAny_e, gInt_i, gInt_b, gList_l, gList_t, gTuple_l, gTuple_t, gMin, gMax, gIx_l, gIx_t, gIx_f, gIx_s, gSl_l, gSl_f, gSl_t, gSl_s, sizeLine_eq]; exact h) (put_n _ _ _) ?_
  dsimp only
  refine wFor_i p.subs Pl.d n (fun i δ m => m = n ∧ ∃ s2, δ = [.d p.d, .l (((p.subs.take i).flatMap Pl.leaves).map .str), s2]) (fun P' h => ?_) ⟨rfl, .u, by simp [startD]⟩ ?_ ?_
  · unfold F_plans_in
    simp [wSeq, wIfS_T, wIfS_F, wIfE_T, wIfE_F, wOrT, wAndT, wNot, wTest, wCall, wCons, wNil, wVar, wC, wChain, wRet, wRetN, wEnd, wOp, wSet, wLst, wTup, wFn, wIt, wNotV, wAndV, wOrA, wSl, wPart, wPart0, wSrc, wSrcPut, wJoin, wSplit, wPartn, wAsg, wgTup, wgCons, wgNil, wgN, wApp, wExt, wDrop, wNever, wFz, wSSet, wLSet, wPwW, wPwP, wPwInc, wMakePW, wMeth, wSetPop, wAugI, wRng1, wRng2, wTrue, wipeD, startD, poOf, and_assoc, gIsi_e, tyS_non, tyS_bl, tyS_int, tyS_str, tyS_tup, tyS_lst, tyS_dct, kitB_1, kitB_2, kitB_3, kitB_4, kitB_5, kitB_6, kitB_7, kitB_8, kitB_9, kitB_10, kitB_11, kitB_12, kitB_13, kitB_14, kitB_15, kitB_16, kitB_17, kitB_18, kitB_19, kitB_20, kitB_21, kitB_22, vw_d, vw_n, vw_b, lst_l, val_d, val_l, arg_d, arg_n, arg_b, dat_d, dat_n, dat_b, out_d, out_n, out_b, vwA_d, vwA_b, vwAs_nil, vwAs_d, vwAs_b, ardat_nil, ardat_d, txts_l, txts_t, seq_l, seq_t, seq_f, seq_s, put_d, put_n, truth_str, truth_bl, truth_tup, truth_lst, sfit_str, sfit_bl, sfit_tup, sfit_lst, frzS, eqv_int, eqv_str, eqv_bl, plain_str, plain_int, plain_bl, plain_non, plain_tup, plain_lst, plains_nil, plains_cons, py_str, py_int, py_bl, py_non, py_tup, py_lst, pys_nil, pys_cons, dep_str, dep_int, dep_bl, dep_non, dep_tup, dep_lst, depA_nil, depA_cons, flat_str, flat_int, atI_0, atI_1, atI_2, strL_nil, strL_cons, cut_from1, cut_from2, gLen_s, gLen_l, gLen_t, gLen_f, gB_e, gI_e, gAdd_i, gAdd_s, gAdd_l, gAdd_t, gMul_i, gMul_l, gEq, gNe, gIn_s, gIn_l, gIn_t, gIsN_e, isN_non, isN_str, isN_tup, isN_int, isN_bl, isN_lst, gAll_e, gAny_e, gInt_i, gInt_b, gList_l, gList_t, gTuple_l, gTuple_t, gMin, gMax, gIx_l, gIx_t, gIx_f, gIx_s, gSl_l, gSl_f, gSl_t, gSl_s]
    exact ⟨p, rfl, h⟩
  · rintro i δ m x hx2 ⟨rfl, s2, rfl⟩
    obtain ⟨h1, h2⟩ := subs_ok hp (List.mem_of_getElem? hx2)
    have ef := flat_take Pl.leaves hx2
    have le := flat_len_le Pl.leaves p.subs (i + 1)
    rw [← leaves_eq p hx, ef, List.length_append] at le
    unfold F_parts_from_left
    simp [wSeq, wIfS_T, wIfS_F, wIfE_T, wIfE_F, wOrT, wAndT, wNot, wTest, wCall, wCons, wNil, wVar, wC, wChain, wRet, wRetN, wEnd, wOp, wSet, wLst, wTup, wFn, wIt, wNotV, wAndV, wOrA, wSl, wPart, wPart0, wSrc, wSrcPut, wJoin, wSplit, wPartn, wAsg, wgTup, wgCons, wgNil, wgN, wApp, wExt, wDrop, wNever, wFz, wSSet, wLSet, wPwW, wPwP, wPwInc, wMakePW, wMeth, wSetPop, wAugI, wRng1, wRng2, wTrue, wipeD, startD, poOf, and_assoc, gIsi_e, tyS_non, tyS_bl, tyS_int, tyS_str, tyS_tup, tyS_lst, tyS_dct, kitB_1, kitB_2, kitB_3, kitB_4, kitB_5, kitB_6, kitB_7, kitB_8, kitB_9, kitB_10, kitB_11, kitB_12, kitB_13, kitB_14, kitB_15, kitB_16, kitB_17, kitB_18, kitB_19, kitB_20, kitB_21, kitB_22, vw_d, vw_n, vw_b, lst_l, val_d, val_l, arg_d, arg_n, arg_b, dat_d, dat_n, dat_b, out_d, out_n, out_b, vwA_d, vwA_b, vwAs_nil, vwAs_d, vwAs_b, ardat_nil, ardat_d, txts_l, txts_t, seq_l, seq_t, seq_f, seq_s, put_d, put_n, truth_str, truth_bl, truth_tup, truth_lst, sfit_str, sfit_bl, sfit_tup, sfit_lst, frzS, eqv_int, eqv_str, eqv_bl, plain_str, plain_int, plain_bl, plain_non, plain_tup, plain_lst, plains_nil, plains_cons, py_str, py_int, py_bl, py_non, py_tup, py_lst, pys_nil, pys_cons, dep_str, dep_int, dep_bl, dep_non, dep_tup, dep_lst, depA_nil, depA_cons, flat_str, flat_int, atI_0, atI_1, atI_2, strL_nil, strL_cons, cut_from1, cut_from2, gLen_s, gLen_l, gLen_t, gLen_f, gB_e, gI_e, gAdd_i, gAdd_s, gAdd_l, gAdd_t, gMul_i, gMul_l, gEq, gNe, gIn_s, gIn_l, gIn_t, gIsN_e, isN_non, isN_str, isN_tup, isN_int, isN_bl, isN_lst, gAll_e, gAny_e, gInt_i, gInt_b, gList_l, gList_t, gTuple_l, gTuple_t, gMin, gMax, gIx_l, gIx_t, gIx_f, gIx_s, gSl_l, gSl_f, gSl_t, gSl_s]
    refine ⟨x, rfl, h1, by omega, by omega, ?_⟩
    refine ⟨by rw [sizeLine_eq]; simp only [List.length_flatMap, List.map_take] at *; omega, ?_⟩
    rw [ef]
    simp
  · rintro δ m ⟨rfl, s2, rfl⟩
    simp [wSeq, wIfS_T, wIfS_F, wIfE_T, wIfE_F, wOrT, wAndT, wNot, wTest, wCall, wCons, wNil, wVar, wC, wChain, wRet, wRetN, wEnd, wOp, wSet, wLst, wTup, wFn, wIt, wNotV, wAndV, wOrA, wSl, wPart, wPart0, wSrc, wSrcPut, wJoin, wSplit, wPartn, wAsg, wgTup, wgCons, wgNil, wgN, wApp, wExt, wDrop, wNever, wFz, wSSet, wLSet, wPwW, wPwP, wPwInc, wMakePW, wMeth, wSetPop, wAugI, wRng1, wRng2, wTrue, wipeD, startD, poOf, and_assoc, gIsi_e, tyS_non, tyS_bl, tyS_int, tyS_str, tyS_tup, tyS_lst, tyS_dct, kitB_1, kitB_2, kitB_3, kitB_4, kitB_5, kitB_6, kitB_7, kitB_8, kitB_9, kitB_10, kitB_11, kitB_12, kitB_13, kitB_14, kitB_15, kitB_16, kitB_17, kitB_18, kitB_19, kitB_20, kitB_21, kitB_22, vw_d, vw_n, vw_b, lst_l, val_d, val_l, arg_d, arg_n, arg_b, dat_d, dat_n, dat_b, out_d, out_n, out_b, vwA_d, vwA_b, vwAs_nil, vwAs_d, vwAs_b, ardat_nil, ardat_d, txts_l, txts_t, seq_l, seq_t, seq_f, seq_s, put_d, put_n, truth_str, truth_bl, truth_tup, truth_lst, sfit_str, sfit_bl, sfit_tup, sfit_lst, frzS, eqv_int, eqv_str, eqv_bl, plain_str, plain_int, plain_bl, plain_non, plain_tup, plain_lst, plains_nil, plains_cons, py_str, py_int, py_bl, py_non, py_tup, py_lst, pys_nil, pys_cons, dep_str, dep_int, dep_bl, dep_non, dep_tup, dep_lst, depA_nil, depA_cons, flat_str, flat_int, atI_0, atI_1, atI_2, strL_nil, strL_cons, cut_from1, cut_from2, gLen_s, gLen_l, gLen_t, gLen_f, gB_e, gI_e, gAdd_i, gAdd_s, gAdd_l, gAdd_t, gMul_i, gMul_l, gEq, gNe, gIn_s, gIn_l, gIn_t, gIsN_e, isN_non, isN_str, isN_tup, isN_int, isN_bl, isN_lst, gAll_e, gAny_e, gInt_i, gInt_b, gList_l, gList_t, gTuple_l, gTuple_t, gMin, gMax, gIx_l, gIx_t, gIx_f, gIx_s, gSl_l, gSl_f, gSl_t, gSl_s]
    have := hR
    rw [leaves_eq p hx] at this
    simpa using this
/-- nothing but texts and tuples -/
def tdep : Nat → D → Prop
  | 0, _ => False
  | k + 1, .str _ => True
  | k + 1, .tup xs => xs.length ≤ sizeLine ∧ ∀ x ∈ xs, tdep k x
  | _, _ => False
theorem tdep_up : ∀ {k : Nat} {x : D}, tdep k x → tdep (k + 1) x
  | 0, _, h => h.elim
  | k + 1, .str _, _ => trivial
  | k + 1, .tup xs, h => ⟨h.1, fun x hx => tdep_up (h.2 x hx)⟩
  | k + 1, .non, h => h.elim
  | k + 1, .bl _, h => h.elim
  | k + 1, .int _, h => h.elim
  | k + 1, .lst _, h => h.elim
  | k + 1, .frl _, h => h.elim
  | k + 1, .src, h => h.elim
  | k + 1, .pw _ _ _, h => h.elim
  | k + 1, .obj _ _, h => h.elim
  | k + 1, .dct _, h => h.elim
  | k + 1, .fn _, h => h.elim
  | k + 1, .ty _, h => h.elim
theorem tdep_le {j k : Nat} {x : D} (h : tdep j x) (hk : j ≤ k) : tdep k x := by
  induction hk with
  | refl => exact h
  | step _ ih => exact tdep_up ih
theorem tdep_names {ys : List (List Nat)} (h : ys.length ≤ 10) (k : Nat) : tdep (k + 2) (namesD ys) := by
  refine ⟨by rw [List.length_map, sizeLine_eq]; omega, fun x hx => ?_⟩
  obtain ⟨y, _, rfl⟩ := List.mem_map.mp hx
  trivial
theorem tdep_pairs {ps : List (List Nat × List Nat)} (h : ps.length ≤ 10) (k : Nat) : tdep (k + 3) (pairsD ps) := by
  refine ⟨by rw [List.length_map, sizeLine_eq]; omega, fun x hx => ?_⟩
  obtain ⟨p, _, rfl⟩ := List.mem_map.mp hx
  refine ⟨by rw [sizeLine_eq]; simp, fun x hx => ?_⟩
  simp only [List.mem_cons, List.not_mem_nil, or_false] at hx
  rcases hx with rfl | rfl <;> trivial
theorem tdep_d : ∀ {p : Pl}, p.ok → tdep (p.deep + 3) p.d
  | .stop, _ => ⟨by rw [sizeLine_eq]; simp, fun x hx => by simp only [List.mem_cons, List.not_mem_nil, or_false] at hx; subst hx; trivial⟩
  | .part y, _ => ⟨by rw [sizeLine_eq]; simp, fun x hx => by simp only [List.mem_cons, List.not_mem_nil, or_false] at hx; rcases hx with rfl | rfl <;> trivial⟩
  | .ahead s p, h => ⟨by rw [sizeLine_eq]; simp, fun x hx => by
    simp only [List.mem_cons, List.not_mem_nil, or_false] at hx
    rcases hx with rfl | rfl | rfl
    · trivial
    · trivial
    · exact tdep_d h.2⟩
  | .two b p r, h => ⟨by rw [sizeLine_eq]; simp, fun x hx => by
    simp only [List.mem_cons, List.not_mem_nil, or_false] at hx
    rcases hx with rfl | rfl | rfl
    · trivial
    · exact tdep_le (tdep_d h.1) (by simp only [Pl.deep]; omega)
    · exact tdep_le (tdep_d h.2) (by simp only [Pl.deep]; omega)⟩
  | .beside ys p r, h => ⟨by rw [sizeLine_eq]; simp, fun x hx => by
    simp only [List.mem_cons, List.not_mem_nil, or_false] at hx
    rcases hx with rfl | rfl | rfl | rfl
    · trivial
    · exact tdep_names h.1.2.2 _
    · exact tdep_le (tdep_d h.2.1) (by simp only [Pl.deep]; omega)
    · exact tdep_le (tdep_d h.2.2) (by simp only [Pl.deep]; omega)⟩
  | .hide ys p, h => ⟨by rw [sizeLine_eq]; simp, fun x hx => by
    simp only [List.mem_cons, List.not_mem_nil, or_false] at hx
    rcases hx with rfl | rfl | rfl
    · trivial
    · exact tdep_names h.1.2.2 _
    · exact tdep_d h.2⟩
  | .ren ps p, h => ⟨by rw [sizeLine_eq]; simp, fun x hx => by
    simp only [List.mem_cons, List.not_mem_nil, or_false] at hx
    rcases hx with rfl | rfl | rfl
    · trivial
    · exact tdep_pairs h.1.2.2 _
    · exact tdep_d h.2⟩
def F__law_tuples (k : Nat) : FW := fun ds n R _ => ∃ x, ds = [x] ∧ tdep k x ∧ R n (.d (.bl true))
theorem pu__law_tuples (k : Nat) : ∀ ds n R PX, ds.length = 1 → F__law_tuples (k + 1) ds n R PX → w__law_tuples (F__law_tuples k) (startD 2 ds) n (poOf R PXF0) := by
  rintro ds n R PX - ⟨x, rfl, hx, hR⟩
  unfold w__law_tuples
  cases x with
  | str y =>
    simp [wSeq, wIfS_T, wIfS_F, wIfE_T, wIfE_F, wOrT, wAndT, wNot, wTest, wCall, wCons, wNil, wVar, wC, wChain, wRet, wRetN, wEnd, wOp, wSet, wLst, wTup, wFn, wIt, wNotV, wAndV, wOrA, wSl, wPart, wPart0, wSrc, wSrcPut, wJoin, wSplit, wPartn, wAsg, wgTup, wgCons, wgNil, wgN, wApp, wExt, wDrop, wNever, wFz, wSSet, wLSet, wPwW, wPwP, wPwInc, wMakePW, wMeth, wSetPop, wAugI, wRng1, wRng2, wTrue, wipeD, startD, poOf, and_assoc, gIsi_e, tyS_non, tyS_bl, tyS_int, tyS_str, tyS_tup, tyS_lst, tyS_dct, kitB_1, kitB_2, kitB_3, kitB_4, kitB_5, kitB_6, kitB_7, kitB_8, kitB_9, kitB_10, kitB_11, kitB_12, kitB_13, kitB_14, kitB_15, kitB_16, kitB_17, kitB_18, kitB_19, kitB_20, kitB_21, kitB_22, vw_d, vw_n, vw_b, lst_l, val_d, val_l, arg_d, arg_n, arg_b, dat_d, dat_n, dat_b, out_d, out_n, out_b, vwA_d, vwA_b, vwAs_nil, vwAs_d, vwAs_b, ardat_nil, ardat_d, txts_l, txts_t, seq_l, seq_t, seq_f, seq_s, put_d, put_n, truth_str, truth_bl, truth_tup, truth_lst, sfit_str, sfit_bl, sfit_tup, sfit_lst, frzS, eqv_int, eqv_str, eqv_bl, plain_str, plain_int, plain_bl, plain_non, plain_tup, plain_lst, plains_nil, plains_cons, py_str, py_int, py_bl, py_non, py_tup, py_lst, pys_nil, pys_cons, dep_str, dep_int, dep_bl, dep_non, dep_tup, dep_lst, depA_nil, depA_cons, flat_str, flat_int, atI_0, atI_1, atI_2, strL_nil, strL_cons, cut_from1, cut_from2, gLen_s, gLen_l, gLen_t, gLen_f, gB_e, gI_e, gAdd_i, gAdd_s, gAdd_l, gAdd_t, gMul_i, gMul_l, gEq, gNe, gIn_s, gIn_l, gIn_t, gIsN_e, isN_non, isN_str, isN_tup, isN_int, isN_bl, isN_lst, gAll_e, gAny_e, gInt_i, gInt_b, gList_l, gList_t, gTuple_l, gTuple_t, gMin, gMax, gIx_l, gIx_t, gIx_f, gIx_s, gSl_l, gSl_f, gSl_t, gSl_s]
    exact hR
  | tup xs =>
    simp only [wSeq]
    refine wIfS_sym false (fun P h => ?_) (fun z => by cases z) fun _ => ?_
    · simp [wSeq, wIfS_T, wIfS_F, wIfE_T, wIfE_F, wOrT, wAndT, wNot, wTest, wCall, wCons, wNil, wVar, wC, wChain, wRet, wRetN, wEnd, wOp, wSet, wLst, wTup, wFn, wIt, wNotV, wAndV, wOrA, wSl, wPart, wPart0, wSrc, wSrcPut, wJoin, wSplit, wPartn, wAsg, wgTup, wgCons, wgNil, wgN, wApp, wExt, wDrop, wNever, wFz, wSSet, wLSet, wPwW, wPwP, wPwInc, wMakePW, wMeth, wSetPop, wAugI, wRng1, wRng2, wTrue, wipeD, startD, poOf, and_assoc, gIsi_e, tyS_non, tyS_bl, tyS_int, tyS_str, tyS_tup, tyS_lst, tyS_dct, kitB_1, kitB_2, kitB_3, kitB_4, kitB_5, kitB_6, kitB_7, kitB_8, kitB_9, kitB_10, kitB_11, kitB_12, kitB_13, kitB_14, kitB_15, kitB_16, kitB_17, kitB_18, kitB_19, kitB_20, kitB_21, kitB_22, vw_d, vw_n, vw_b, lst_l, val_d, val_l, arg_d, arg_n, arg_b, dat_d, dat_n, dat_b, out_d, out_n, out_b, vwA_d, vwA_b, vwAs_nil, vwAs_d, vwAs_b, ardat_nil, ardat_d, txts_l, txts_t, seq_l, seq_t, seq_f, seq_s, put_d, put_n, truth_str, truth_bl, truth_tup, truth_lst, sfit_str, sfit_bl, sfit_tup, sfit_lst, frzS, eqv_int, eqv_str, eqv_bl, plain_str, plain_int, plain_bl, plain_non, plain_tup, plain_lst, plains_nil, plains_cons, py_str, py_int, py_bl, py_non, py_tup, py_lst, pys_nil, pys_cons, dep_str, dep_int, dep_bl, dep_non, dep_tup, dep_lst, depA_nil, depA_cons, flat_str, flat_int, atI_0, atI_1, atI_2, strL_nil, strL_cons, cut_from1, cut_from2, gLen_s, gLen_l, gLen_t, gLen_f, gB_e, gI_e, gAdd_i, gAdd_s, gAdd_l, gAdd_t, gMul_i, gMul_l, gEq, gNe, gIn_s, gIn_l, gIn_t, gIsN_e, isN_non, isN_str, isN_tup, isN_int, isN_bl, isN_lst, gAll_e, gAny_e, gInt_i, gInt_b, gList_l, gList_t, gTuple_l, gTuple_t, gMin, gMax, gIx_l, gIx_t, gIx_f, gIx_s, gSl_l, gSl_f, gSl_t, gSl_s]; exact h
    simp [wSeq, wIfS_T, wIfS_F, wIfE_T, wIfE_F, wOrT, wAndT, wNot, wTest, wCall, wCons, wNil, wVar, wC, wChain, wRet, wRetN, wEnd, wOp, wSet, wLst, wTup, wFn, wIt, wNotV, wAndV, wOrA, wSl, wPart, wPart0, wSrc, wSrcPut, wJoin, wSplit, wPartn, wAsg, wgTup, wgCons, wgNil, wgN, wApp, wExt, wDrop, wNever, wFz, wSSet, wLSet, wPwW, wPwP, wPwInc, wMakePW, wMeth, wSetPop, wAugI, wRng1, wRng2, wTrue, wipeD, startD, poOf, and_assoc, gIsi_e, tyS_non, tyS_bl, tyS_int, tyS_str, tyS_tup, tyS_lst, tyS_dct, kitB_1, kitB_2, kitB_3, kitB_4, kitB_5, kitB_6, kitB_7, kitB_8, kitB_9, kitB_10, kitB_11, kitB_12, kitB_13, kitB_14, kitB_15, kitB_16, kitB_17, kitB_18, kitB_19, kitB_20, kitB_21, kitB_22, vw_d, vw_n, vw_b, lst_l, val_d, val_l, arg_d, arg_n, arg_b, dat_d, dat_n, dat_b, out_d, out_n, out_b, vwA_d, vwA_b, vwAs_nil, vwAs_d, vwAs_b, ardat_nil, ardat_d, txts_l, txts_t, seq_l, seq_t, seq_f, seq_s, put_d, put_n, truth_str, truth_bl, truth_tup, truth_lst, sfit_str, sfit_bl, sfit_tup, sfit_lst, frzS, eqv_int, eqv_str, eqv_bl, plain_str, plain_int, plain_bl, plain_non, plain_tup, plain_lst, plains_nil, plains_cons, py_str, py_int, py_bl, py_non, py_tup, py_lst, pys_nil, pys_cons, dep_str, dep_int, dep_bl, dep_non, dep_tup, dep_lst, depA_nil, depA_cons, flat_str, flat_int, atI_0, atI_1, atI_2, strL_nil, strL_cons, cut_from1, cut_from2, gLen_s, gLen_l, gLen_t, gLen_f, gB_e, gI_e, gAdd_i, gAdd_s, gAdd_l, gAdd_t, gMul_i, gMul_l, gEq, gNe, gIn_s, gIn_l, gIn_t, gIsN_e, isN_non, isN_str, isN_tup, isN_int, isN_bl, isN_lst, gAll_e, gAny_e, gInt_i, gInt_b, gList_l, gList_t, gTuple_l, gTuple_t, gMin, gMax, gIx_l, gIx_t, gIx_f, gIx_s, gSl_l, gSl_f, gSl_t, gSl_s]
    refine wLc_map xs (fun x => x) (fun _ => .bl true) (fun P' h => by simp [wSeq, wIfS_T, wIfS_F, wIfE_T, wIfE_F, wOrT, wAndT, wNot, wTest, wCall, wCons, wNil, wVar, wC, wChain, wRet, wRetN, wEnd, wOp, wSet, wLst, wTup, wFn, wIt, wNotV, wAndV, wOrA, wSl, wPart, wPart0, wSrc, wSrcPut, wJoin, wSplit, wPartn, wAsg, wgTup, wgCons, wgNil, wgN, wApp, wExt, wDrop, wNever, wFz, wSSet, wLSet, wPwW, wPwP, wPwInc, wMakePW, wMeth, wSetPop, wAugI, wRng1, wRng2, wTrue, wipeD, startD, poOf, and_assoc, gIsi_e, tyS_non, tyS_bl, tyS_int, tyS_str, tyS_tup, tyS_lst, tyS_dct, kitB_1, kitB_2, kitB_3, kitB_4, kitB_5, kitB_6, kitB_7, kitB_8, kitB_9, kitB_10, kitB_11, kitB_12, kitB_13, kitB_14, kitB_15, kitB_16, kitB_17, kitB_18, kitB_19, kitB_20, kitB_21, kitB_22, vw_d, vw_n, vw_b, lst_l, val_d, val_l, arg_d, arg_n, arg_b, dat_d, dat_n, dat_b, out_d, out_n, out_b, vwA_d, vwA_b, vwAs_nil, vwAs_d, vwAs_b, ardat_nil, ardat_d, txts_l, txts_t, seq_l, seq_t, seq_f, seq_s, put_d, put_n, truth_str, truth_bl, truth_tup, truth_lst, sfit_str, sfit_bl, sfit_tup, sfit_lst, frzS, eqv_int, eqv_str, eqv_bl, plain_str, plain_int, plain_bl, plain_non, plain_tup, plain_lst, plains_nil, plains_cons, py_str, py_int, py_bl, py_non, py_tup, py_lst, pys_nil, pys_cons, dep_str, dep_int, dep_bl, dep_non, dep_tup, dep_lst, depA_nil, depA_cons, flat_str, flat_int, atI_0, atI_1, atI_2, strL_nil, strL_cons, cut_from1, cut_from2, gLen_s, gLen_l, gLen_t, gLen_f, gB_e, gI_e, gAdd_i, gAdd_s, gAdd_l, gAdd_t, gMul_i, gMul_l, gEq, gNe, gIn_s, gIn_l, gIn_t, gIsN_e, isN_non, isN_str, isN_tup, isN_int, isN_bl, isN_lst, gAll_e, gAny_e, gInt_i, gInt_b, gList_l, gList_t, gTuple_l, gTuple_t, gMin, gMax, gIx_l, gIx_t, gIx_f, gIx_s, gSl_l, gSl_f, gSl_t, gSl_s]; simpa using h) hx.1 (fun x hxx K1 h K0 => ?_) ?_
    · unfold F__law_tuples
      simp [wSeq, wIfS_T, wIfS_F, wIfE_T, wIfE_F, wOrT, wAndT, wNot, wTest, wCall, wCons, wNil, wVar, wC, wChain, wRet, wRetN, wEnd, wOp, wSet, wLst, wTup, wFn, wIt, wNotV, wAndV, wOrA, wSl, wPart, wPart0, wSrc, wSrcPut, wJoin, wSplit, wPartn, wAsg, wgTup, wgCons, wgNil, wgN, wApp, wExt, wDrop, wNever, wFz, wSSet, wLSet, wPwW, wPwP, wPwInc, wMakePW, wMeth, wSetPop, wAugI, wRng1, wRng2, wTrue, wipeD, startD, poOf, and_assoc, gIsi_e, tyS_non, tyS_bl, tyS_int, tyS_str, tyS_tup, tyS_lst, tyS_dct, kitB_1, kitB_2, kitB_3, kitB_4, kitB_5, kitB_6, kitB_7, kitB_8, kitB_9, kitB_10, kitB_11, kitB_12, kitB_13, kitB_14, kitB_15, kitB_16, kitB_17, kitB_18, kitB_19, kitB_20, kitB_21, kitB_22, vw_d, vw_n, vw_b, lst_l, val_d, val_l, arg_d, arg_n, arg_b, dat_d, dat_n, dat_b, out_d, out_n, out_b, vwA_d, vwA_b, vwAs_nil, vwAs_d, vwAs_b, ardat_nil, ardat_d, txts_l, txts_t, seq_l, seq_t, seq_f, seq_s, put_d, put_n, truth_str, truth_bl, truth_tup, truth_lst, sfit_str, sfit_bl, sfit_tup, sfit_lst, frzS, eqv_int, eqv_str, eqv_bl, plain_str, plain_int, plain_bl, plain_non, plain_tup, plain_lst, plains_nil, plains_cons, py_str, py_int, py_bl, py_non, py_tup, py_lst, pys_nil, pys_cons, dep_str, dep_int, dep_bl, dep_non, dep_tup, dep_lst, depA_nil, depA_cons, flat_str, flat_int, atI_0, atI_1, atI_2, strL_nil, strL_cons, cut_from1, cut_from2, gLen_s, gLen_l, gLen_t, gLen_f, gB_e, gI_e, gAdd_i, gAdd_s, gAdd_l, gAdd_t, gMul_i, gMul_l, gEq, gNe, gIn_s, gIn_l, gIn_t, gIsN_e, isN_non, isN_str, isN_tup, isN_int, isN_bl, isN_lst, gAll_e, gAny_e, gInt_i, gInt_b, gList_l, gList_t, gTuple_l, gTuple_t, gMin, gMax, gIx_l, gIx_t, gIx_f, gIx_s, gSl_l, gSl_f, gSl_t, gSl_s]
      exact ⟨hx.2 x hxx, h⟩
    · simp [wSeq, wIfS_T, wIfS_F, wIfE_T, wIfE_F, wOrT, wAndT, wNot, wTest, wCall, wCons, wNil, wVar, wC, wChain, wRet, wRetN, wEnd, wOp, wSet, wLst, wTup, wFn, wIt, wNotV, wAndV, wOrA, wSl, wPart, wPart0, wSrc, wSrcPut, wJoin, wSplit, wPartn, wAsg, wgTup, wgCons, wgNil, wgN, wApp, wExt, wDrop, wNever, wFz, wSSet, wLSet, wPwW, wPwP, wPwInc, wMakePW, wMeth, wSetPop, wAugI, wRng1, wRng2, wTrue, wipeD, startD, poOf, and_assoc, gIsi_e, tyS_non, tyS_bl, tyS_int, tyS_str, tyS_tup, tyS_lst, tyS_dct, kitB_1, kitB_2, kitB_3, kitB_4, kitB_5, kitB_6, kitB_7, kitB_8, kitB_9, kitB_10, kitB_11, kitB_12, kitB_13, kitB_14, kitB_15, kitB_16, kitB_17, kitB_18, kitB_19, kitB_20, kitB_21, kitB_22, vw_d, vw_n, vw_b, lst_l, val_d, val_l, arg_d, arg_n, arg_b, dat_d, dat_n, dat_b, out_d, out_n, out_b, vwA_d, vwA_b, vwAs_nil, vwAs_d, vwAs_b, ardat_nil, ardat_d, txts_l, txts_t, seq_l, seq_t, seq_f, seq_s, put_d, put_n, truth_str, truth_bl, truth_tup, truth_lst, sfit_str, sfit_bl, sfit_tup, sfit_lst, frzS, eqv_int, eqv_str, eqv_bl, plain_str, plain_int, plain_bl, plain_non, plain_tup, plain_lst, plains_nil, plains_cons, py_str, py_int, py_bl, py_non, py_tup, py_lst, pys_nil, pys_cons, dep_str, dep_int, dep_bl, dep_non, dep_tup, dep_lst, depA_nil, depA_cons, flat_str, flat_int, atI_0, atI_1, atI_2, strL_nil, strL_cons, cut_from1, cut_from2, gLen_s, gLen_l, gLen_t, gLen_f, gB_e, gI_e, gAdd_i, gAdd_s, gAdd_l, gAdd_t, gMul_i, gMul_l, gEq, gNe, gIn_s, gIn_l, gIn_t, gIsN_e, isN_non, isN_str, isN_tup, isN_int, isN_bl, isN_lst, gAll_e, gAny_e, gInt_i, gInt_b, gList_l, gList_t, gTuple_l, gTuple_t, gMin, gMax, gIx_l, gIx_t, gIx_f, gIx_s, gSl_l, gSl_f, gSl_t, gSl_s, D.isB, D.tru]
      have e : (xs.all (D.tru ∘ fun x => D.bl true)) = true := List.all_eq_true.mpr fun _ _ => rfl
      rw [e]
      exact hR
  | _ => exact hx.elim
def F_law : FW := fun ds n R _ => ∃ ns : List Int, ds = [.frl ns] ∧ n.n ≤ 1000 ∧ ∀ n', R n' (.d (.bl true))
theorem fit_of {m : Int} (p : Pl) (hp : p.ok) (h : p.spell.length ≤ max m.toNat 1) (hm : m ≤ 40) : p.fit := ⟨hp, by omega⟩
theorem pu_law : ∀ ds n R PX, ds.length = 1 → F_law ds n R PX → w_law F__law_source_of F__law_one (F__law_plan 21) (F_words_of 40) F_show_plan F_read_plan (F__law_tuples 43) F_parts_of (F_parts_from_left 40) (startD 8 ds) n (poOf R PXF0) := by
  rintro ds n R PX - ⟨ns, rfl, hn, hR⟩
  unfold w_law
  simp only [wSeq]
  refine wFor_m (fun n1 ds => n1 = n ∧ ds.length ≤ 12 ∧ ∀ d ∈ ds, ∃ i, d = .int i) (fun P' h => ?_) ?_
  · simp [wSeq, wIfS_T, wIfS_F, wIfE_T, wIfE_F, wOrT, wAndT, wNot, wTest, wCall, wCons, wNil, wVar, wC, wChain, wRet, wRetN, wEnd, wOp, wSet, wLst, wTup, wFn, wIt, wNotV, wAndV, wOrA, wSl, wPart, wPart0, wSrc, wSrcPut, wJoin, wSplit, wPartn, wAsg, wgTup, wgCons, wgNil, wgN, wApp, wExt, wDrop, wNever, wFz, wSSet, wLSet, wPwW, wPwP, wPwInc, wMakePW, wMeth, wSetPop, wAugI, wRng1, wRng2, wTrue, wipeD, startD, poOf, and_assoc, gIsi_e, tyS_non, tyS_bl, tyS_int, tyS_str, tyS_tup, tyS_lst, tyS_dct, kitB_1, kitB_2, kitB_3, kitB_4, kitB_5, kitB_6, kitB_7, kitB_8, kitB_9, kitB_10, kitB_11, kitB_12, kitB_13, kitB_14, kitB_15, kitB_16, kitB_17, kitB_18, kitB_19, kitB_20, kitB_21, kitB_22, vw_d, vw_n, vw_b, lst_l, val_d, val_l, arg_d, arg_n, arg_b, dat_d, dat_n, dat_b, out_d, out_n, out_b, vwA_d, vwA_b, vwAs_nil, vwAs_d, vwAs_b, ardat_nil, ardat_d, txts_l, txts_t, seq_l, seq_t, seq_f, seq_s, put_d, put_n, truth_str, truth_bl, truth_tup, truth_lst, sfit_str, sfit_bl, sfit_tup, sfit_lst, frzS, eqv_int, eqv_str, eqv_bl, plain_str, plain_int, plain_bl, plain_non, plain_tup, plain_lst, plains_nil, plains_cons, py_str, py_int, py_bl, py_non, py_tup, py_lst, pys_nil, pys_cons, dep_str, dep_int, dep_bl, dep_non, dep_tup, dep_lst, depA_nil, depA_cons, flat_str, flat_int, atI_0, atI_1, atI_2, strL_nil, strL_cons, cut_from1, cut_from2, gLen_s, gLen_l, gLen_t, gLen_f, gB_e, gI_e, gAdd_i, gAdd_s, gAdd_l, gAdd_t, gMul_i, gMul_l, gEq, gNe, gIn_s, gIn_l, gIn_t, gIsN_e, isN_non, isN_str, isN_tup, isN_int, isN_bl, isN_lst, gAll_e, gAny_e, gInt_i, gInt_b, gList_l, gList_t, gTuple_l, gTuple_t, gMin, gMax, gIx_l, gIx_t, gIx_f, gIx_s, gSl_l, gSl_f, gSl_t, gSl_s, sizeLine_eq]
    have hc : (cutL ns none (some 10)).length ≤ 10 := by
      unfold cutL
      rw [List.length_take]
      rw [show HT.sIx ns.length ns.length (some 10) = min 10 ns.length from HT.sIx_nat _ _ 10]
      omega
    refine ⟨by omega, h _ _ ⟨rfl, by simp; omega, fun d hd => ?_⟩⟩
    rcases List.mem_append.mp hd with hd | hd
    · obtain ⟨i, _, rfl⟩ := List.mem_map.mp hd
      exact ⟨i, rfl⟩
    · simp only [List.mem_cons, List.not_mem_nil, or_false] at hd
      rcases hd with rfl | rfl
      · exact ⟨0, rfl⟩
      · exact ⟨1, rfl⟩
  · rintro n1 ds ⟨rfl, hl, hd⟩
    refine ⟨fun i δ m => m.n ≤ n1.n + 13000 * i ∧ ∃ s1 s2 s3 s4 s5 s6 s7, δ = [.d (.frl ns), s1, s2, s3, s4, s5, s6, s7], ⟨by omega, .u, .u, .u, .u, .u, .u, .u, rfl⟩, ?_, ?_⟩
    · rintro i δ m d hdi ⟨hm, s1, s2, s3, s4, s5, s6, s7, rfl⟩
      have hi := (List.getElem?_eq_some_iff.mp hdi).1
      obtain ⟨c, rfl⟩ := hd d (List.mem_of_getElem? hdi)
      simp only [wgN]
      refine wSet_i (n' := m) (r := .d .src) (fun P h => by unfold F__law_source_of; simp [wSeq, wIfS_T, wIfS_F, wIfE_T, wIfE_F, wOrT, wAndT, wNot, wTest, wCall, wCons, wNil, wVar, wC, wChain, wRet, wRetN, wEnd, wOp, wSet, wLst, wTup, wFn, wIt, wNotV, wAndV, wOrA, wSl, wPart, wPart0, wSrc, wSrcPut, wJoin, wSplit, wPartn, wAsg, wgTup, wgCons, wgNil, wgN, wApp, wExt, wDrop, wNever, wFz, wSSet, wLSet, wPwW, wPwP, wPwInc, wMakePW, wMeth, wSetPop, wAugI, wRng1, wRng2, wTrue, wipeD, startD, poOf, and_assoc, gIsi_e, tyS_non, tyS_bl, tyS_int, tyS_str, tyS_tup, tyS_lst, tyS_dct, kitB_1, kitB_2, kitB_3, kitB_4, kitB_5, kitB_6, kitB_7, kitB_8, kitB_9, kitB_10, kitB_11, kitB_12, kitB_13, kitB_14, kitB_15, kitB_16, kitB_17, kitB_18, kitB_19, kitB_20, kitB_21, kitB_22, vw_d, vw_n, vw_b, lst_l, val_d, val_l, arg_d, arg_n, arg_b, dat_d, dat_n, dat_b, out_d, out_n, out_b, vwA_d, vwA_b, vwAs_nil, vwAs_d, vwAs_b, ardat_nil, ardat_d, txts_l, txts_t, seq_l, seq_t, seq_f, seq_s, put_d, put_n, truth_str, truth_bl, truth_tup, truth_lst, sfit_str, sfit_bl, sfit_tup, sfit_lst, frzS, eqv_int, eqv_str, eqv_bl, plain_str, plain_int, plain_bl, plain_non, plain_tup, plain_lst, plains_nil, plains_cons, py_str, py_int, py_bl, py_non, py_tup, py_lst, pys_nil, pys_cons, dep_str, dep_int, dep_bl, dep_non, dep_tup, dep_lst, depA_nil, depA_cons, flat_str, flat_int, atI_0, atI_1, atI_2, strL_nil, strL_cons, cut_from1, cut_from2, gLen_s, gLen_l, gLen_t, gLen_f, gB_e, gI_e, gAdd_i, gAdd_s, gAdd_l, gAdd_t, gMul_i, gMul_l, gEq, gNe, gIn_s, gIn_l, gIn_t, gIsN_e, isN_non, isN_str, isN_tup, isN_int, isN_bl, isN_lst, gAll_e, gAny_e, gInt_i, gInt_b, gList_l, gList_t, gTuple_l, gTuple_t, gMin, gMax, gIx_l, gIx_t, gIx_f, gIx_s, gSl_l, gSl_f, gSl_t, gSl_s]; exact h) (put_d _ _ _) ?_
      dsimp only
      refine wSet_m (fun n' x => n'.n ≤ m.n + 12100 ∧ ∃ p : Pl, x = p.d ∧ p.fit) (fun P h => ?_) ?_
      · have go : ∀ k : Int, 0 ≤ k → k ≤ 40 → ∀ (n' : Gh) (p : Pl), later { m with n := m.n + 1 } n' (300 * k.toNat + 20) → p.ok → p.spell.length ≤ max k.toNat 1 → P n' (.d p.d) := fun k h0 h1 n' p l hp hs => by
          unfold later at l
          simp only at l
          exact h _ _ ⟨by omega, p, rfl, fit_of (m := k) p hp hs h1⟩
        unfold F__law_plan F__law_one
        simp [wSeq, wIfS_T, wIfS_F, wIfE_T, wIfE_F, wOrT, wAndT, wNot, wTest, wCall, wCons, wNil, wVar, wC, wChain, wRet, wRetN, wEnd, wOp, wSet, wLst, wTup, wFn, wIt, wNotV, wAndV, wOrA, wSl, wPart, wPart0, wSrc, wSrcPut, wJoin, wSplit, wPartn, wAsg, wgTup, wgCons, wgNil, wgN, wApp, wExt, wDrop, wNever, wFz, wSSet, wLSet, wPwW, wPwP, wPwInc, wMakePW, wMeth, wSetPop, wAugI, wRng1, wRng2, wTrue, wipeD, startD, poOf, and_assoc, gIsi_e, tyS_non, tyS_bl, tyS_int, tyS_str, tyS_tup, tyS_lst, tyS_dct, kitB_1, kitB_2, kitB_3, kitB_4, kitB_5, kitB_6, kitB_7, kitB_8, kitB_9, kitB_10, kitB_11, kitB_12, kitB_13, kitB_14, kitB_15, kitB_16, kitB_17, kitB_18, kitB_19, kitB_20, kitB_21, kitB_22, vw_d, vw_n, vw_b, lst_l, val_d, val_l, arg_d, arg_n, arg_b, dat_d, dat_n, dat_b, out_d, out_n, out_b, vwA_d, vwA_b, vwAs_nil, vwAs_d, vwAs_b, ardat_nil, ardat_d, txts_l, txts_t, seq_l, seq_t, seq_f, seq_s, put_d, put_n, truth_str, truth_bl, truth_tup, truth_lst, sfit_str, sfit_bl, sfit_tup, sfit_lst, frzS, eqv_int, eqv_str, eqv_bl, plain_str, plain_int, plain_bl, plain_non, plain_tup, plain_lst, plains_nil, plains_cons, py_str, py_int, py_bl, py_non, py_tup, py_lst, pys_nil, pys_cons, dep_str, dep_int, dep_bl, dep_non, dep_tup, dep_lst, depA_nil, depA_cons, flat_str, flat_int, atI_0, atI_1, atI_2, strL_nil, strL_cons, cut_from1, cut_from2, gLen_s, gLen_l, gLen_t, gLen_f, gB_e, gI_e, gAdd_i, gAdd_s, gAdd_l, gAdd_t, gMul_i, gMul_l, gEq, gNe, gIn_s, gIn_l, gIn_t, gIsN_e, isN_non, isN_str, isN_tup, isN_int, isN_bl, isN_lst, gAll_e, gAny_e, gInt_i, gInt_b, gList_l, gList_t, gTuple_l, gTuple_t, gMin, gMax, gIx_l, gIx_t, gIx_f, gIx_s, gSl_l, gSl_f, gSl_t, gSl_s, sizeLine_eq]
        exact ⟨by omega, by omega, go 40 (by decide) (by decide), by omega, go 20 (by decide) (by decide), by omega, go 8 (by decide) (by decide)⟩
      rintro n2 x ⟨hn2, p, rfl, hp⟩
      dsimp only
      refine wSet_i (n' := n2) (r := .d (.str (txt p))) (fun P h => ?_) (put_d _ _ _) ?_
      · unfold F_words_of
        simp [wSeq, wIfS_T, wIfS_F, wIfE_T, wIfE_F, wOrT, wAndT, wNot, wTest, wCall, wCons, wNil, wVar, wC, wChain, wRet, wRetN, wEnd, wOp, wSet, wLst, wTup, wFn, wIt, wNotV, wAndV, wOrA, wSl, wPart, wPart0, wSrc, wSrcPut, wJoin, wSplit, wPartn, wAsg, wgTup, wgCons, wgNil, wgN, wApp, wExt, wDrop, wNever, wFz, wSSet, wLSet, wPwW, wPwP, wPwInc, wMakePW, wMeth, wSetPop, wAugI, wRng1, wRng2, wTrue, wipeD, startD, poOf, and_assoc, gIsi_e, tyS_non, tyS_bl, tyS_int, tyS_str, tyS_tup, tyS_lst, tyS_dct, kitB_1, kitB_2, kitB_3, kitB_4, kitB_5, kitB_6, kitB_7, kitB_8, kitB_9, kitB_10, kitB_11, kitB_12, kitB_13, kitB_14, kitB_15, kitB_16, kitB_17, kitB_18, kitB_19, kitB_20, kitB_21, kitB_22, vw_d, vw_n, vw_b, lst_l, val_d, val_l, arg_d, arg_n, arg_b, dat_d, dat_n, dat_b, out_d, out_n, out_b, vwA_d, vwA_b, vwAs_nil, vwAs_d, vwAs_b, ardat_nil, ardat_d, txts_l, txts_t, seq_l, seq_t, seq_f, seq_s, put_d, put_n, truth_str, truth_bl, truth_tup, truth_lst, sfit_str, sfit_bl, sfit_tup, sfit_lst, frzS, eqv_int, eqv_str, eqv_bl, plain_str, plain_int, plain_bl, plain_non, plain_tup, plain_lst, plains_nil, plains_cons, py_str, py_int, py_bl, py_non, py_tup, py_lst, pys_nil, pys_cons, dep_str, dep_int, dep_bl, dep_non, dep_tup, dep_lst, depA_nil, depA_cons, flat_str, flat_int, atI_0, atI_1, atI_2, strL_nil, strL_cons, cut_from1, cut_from2, gLen_s, gLen_l, gLen_t, gLen_f, gB_e, gI_e, gAdd_i, gAdd_s, gAdd_l, gAdd_t, gMul_i, gMul_l, gEq, gNe, gIn_s, gIn_l, gIn_t, gIsN_e, isN_non, isN_str, isN_tup, isN_int, isN_bl, isN_lst, gAll_e, gAny_e, gInt_i, gInt_b, gList_l, gList_t, gTuple_l, gTuple_t, gMin, gMax, gIx_l, gIx_t, gIx_f, gIx_s, gSl_l, gSl_f, gSl_t, gSl_s]
        exact ⟨p, rfl, hp.1, Nat.le_trans (deep_le p) hp.2, by have := hp.2; omega, _, D.strL_map _, by have := fit_sum hp; omega, h⟩
      dsimp only
      refine wFor_m (fun n3 ds => n3 = n2 ∧ ds = rngD 0 2) (fun P' h => ?_) ?_
      · simp [wSeq, wIfS_T, wIfS_F, wIfE_T, wIfE_F, wOrT, wAndT, wNot, wTest, wCall, wCons, wNil, wVar, wC, wChain, wRet, wRetN, wEnd, wOp, wSet, wLst, wTup, wFn, wIt, wNotV, wAndV, wOrA, wSl, wPart, wPart0, wSrc, wSrcPut, wJoin, wSplit, wPartn, wAsg, wgTup, wgCons, wgNil, wgN, wApp, wExt, wDrop, wNever, wFz, wSSet, wLSet, wPwW, wPwP, wPwInc, wMakePW, wMeth, wSetPop, wAugI, wRng1, wRng2, wTrue, wipeD, startD, poOf, and_assoc, gIsi_e, tyS_non, tyS_bl, tyS_int, tyS_str, tyS_tup, tyS_lst, tyS_dct, kitB_1, kitB_2, kitB_3, kitB_4, kitB_5, kitB_6, kitB_7, kitB_8, kitB_9, kitB_10, kitB_11, kitB_12, kitB_13, kitB_14, kitB_15, kitB_16, kitB_17, kitB_18, kitB_19, kitB_20, kitB_21, kitB_22, vw_d, vw_n, vw_b, lst_l, val_d, val_l, arg_d, arg_n, arg_b, dat_d, dat_n, dat_b, out_d, out_n, out_b, vwA_d, vwA_b, vwAs_nil, vwAs_d, vwAs_b, ardat_nil, ardat_d, txts_l, txts_t, seq_l, seq_t, seq_f, seq_s, put_d, put_n, truth_str, truth_bl, truth_tup, truth_lst, sfit_str, sfit_bl, sfit_tup, sfit_lst, frzS, eqv_int, eqv_str, eqv_bl, plain_str, plain_int, plain_bl, plain_non, plain_tup, plain_lst, plains_nil, plains_cons, py_str, py_int, py_bl, py_non, py_tup, py_lst, pys_nil, pys_cons, dep_str, dep_int, dep_bl, dep_non, dep_tup, dep_lst, depA_nil, depA_cons, flat_str, flat_int, atI_0, atI_1, atI_2, strL_nil, strL_cons, cut_from1, cut_from2, gLen_s, gLen_l, gLen_t, gLen_f, gB_e, gI_e, gAdd_i, gAdd_s, gAdd_l, gAdd_t, gMul_i, gMul_l, gEq, gNe, gIn_s, gIn_l, gIn_t, gIsN_e, isN_non, isN_str, isN_tup, isN_int, isN_bl, isN_lst, gAll_e, gAny_e, gInt_i, gInt_b, gList_l, gList_t, gTuple_l, gTuple_t, gMin, gMax, gIx_l, gIx_t, gIx_f, gIx_s, gSl_l, gSl_f, gSl_t, gSl_s]
        exact h _ _ ⟨rfl, rfl⟩
      rintro n3 ds ⟨rfl, rfl⟩
      refine ⟨fun j δ m' => m'.n = n3.n ∧ ∃ s5 s6 s7, δ = [.d (.frl ns), .d (.int c), .d .src, .d p.d, .d (.str (txt p)), s5, s6, s7], ⟨rfl, s5, s6, s7, rfl⟩, ?_, ?_⟩
      · rintro j δ m' d hdj ⟨hm', s5, s6, s7, rfl⟩
        simp only [wgN]
        have e1 : (txt p == txt p) = true := by simp
        refine wIfS_sym false (fun P h => ?_) (fun z => by cases z) fun _ => ?_
        · unfold F_show_plan
          simp [wSeq, wIfS_T, wIfS_F, wIfE_T, wIfE_F, wOrT, wAndT, wNot, wTest, wCall, wCons, wNil, wVar, wC, wChain, wRet, wRetN, wEnd, wOp, wSet, wLst, wTup, wFn, wIt, wNotV, wAndV, wOrA, wSl, wPart, wPart0, wSrc, wSrcPut, wJoin, wSplit, wPartn, wAsg, wgTup, wgCons, wgNil, wgN, wApp, wExt, wDrop, wNever, wFz, wSSet, wLSet, wPwW, wPwP, wPwInc, wMakePW, wMeth, wSetPop, wAugI, wRng1, wRng2, wTrue, wipeD, startD, poOf, and_assoc, gIsi_e, tyS_non, tyS_bl, tyS_int, tyS_str, tyS_tup, tyS_lst, tyS_dct, kitB_1, kitB_2, kitB_3, kitB_4, kitB_5, kitB_6, kitB_7, kitB_8, kitB_9, kitB_10, kitB_11, kitB_12, kitB_13, kitB_14, kitB_15, kitB_16, kitB_17, kitB_18, kitB_19, kitB_20, kitB_21, kitB_22, vw_d, vw_n, vw_b, lst_l, val_d, val_l, arg_d, arg_n, arg_b, dat_d, dat_n, dat_b, out_d, out_n, out_b, vwA_d, vwA_b, vwAs_nil, vwAs_d, vwAs_b, ardat_nil, ardat_d, txts_l, txts_t, seq_l, seq_t, seq_f, seq_s, put_d, put_n, truth_str, truth_bl, truth_tup, truth_lst, sfit_str, sfit_bl, sfit_tup, sfit_lst, frzS, eqv_int, eqv_str, eqv_bl, plain_str, plain_int, plain_bl, plain_non, plain_tup, plain_lst, plains_nil, plains_cons, py_str, py_int, py_bl, py_non, py_tup, py_lst, pys_nil, pys_cons, dep_str, dep_int, dep_bl, dep_non, dep_tup, dep_lst, depA_nil, depA_cons, flat_str, flat_int, atI_0, atI_1, atI_2, strL_nil, strL_cons, cut_from1, cut_from2, gLen_s, gLen_l, gLen_t, gLen_f, gB_e, gI_e, gAdd_i, gAdd_s, gAdd_l, gAdd_t, gMul_i, gMul_l, gEq, gNe, gIn_s, gIn_l, gIn_t, gIsN_e, isN_non, isN_str, isN_tup, isN_int, isN_bl, isN_lst, gAll_e, gAny_e, gInt_i, gInt_b, gList_l, gList_t, gTuple_l, gTuple_t, gMin, gMax, gIx_l, gIx_t, gIx_f, gIx_s, gSl_l, gSl_f, gSl_t, gSl_s]
          exact ⟨p, rfl, hp, by simpa using h⟩
        simp only [wEnd]
        refine wSet_m (fun n' x => n'.n = n3.n ∧ x = p.d) (fun P h => ?_) ?_
        · unfold F_read_plan
          simp [wSeq, wIfS_T, wIfS_F, wIfE_T, wIfE_F, wOrT, wAndT, wNot, wTest, wCall, wCons, wNil, wVar, wC, wChain, wRet, wRetN, wEnd, wOp, wSet, wLst, wTup, wFn, wIt, wNotV, wAndV, wOrA, wSl, wPart, wPart0, wSrc, wSrcPut, wJoin, wSplit, wPartn, wAsg, wgTup, wgCons, wgNil, wgN, wApp, wExt, wDrop, wNever, wFz, wSSet, wLSet, wPwW, wPwP, wPwInc, wMakePW, wMeth, wSetPop, wAugI, wRng1, wRng2, wTrue, wipeD, startD, poOf, and_assoc, gIsi_e, tyS_non, tyS_bl, tyS_int, tyS_str, tyS_tup, tyS_lst, tyS_dct, kitB_1, kitB_2, kitB_3, kitB_4, kitB_5, kitB_6, kitB_7, kitB_8, kitB_9, kitB_10, kitB_11, kitB_12, kitB_13, kitB_14, kitB_15, kitB_16, kitB_17, kitB_18, kitB_19, kitB_20, kitB_21, kitB_22, vw_d, vw_n, vw_b, lst_l, val_d, val_l, arg_d, arg_n, arg_b, dat_d, dat_n, dat_b, out_d, out_n, out_b, vwA_d, vwA_b, vwAs_nil, vwAs_d, vwAs_b, ardat_nil, ardat_d, txts_l, txts_t, seq_l, seq_t, seq_f, seq_s, put_d, put_n, truth_str, truth_bl, truth_tup, truth_lst, sfit_str, sfit_bl, sfit_tup, sfit_lst, frzS, eqv_int, eqv_str, eqv_bl, plain_str, plain_int, plain_bl, plain_non, plain_tup, plain_lst, plains_nil, plains_cons, py_str, py_int, py_bl, py_non, py_tup, py_lst, pys_nil, pys_cons, dep_str, dep_int, dep_bl, dep_non, dep_tup, dep_lst, depA_nil, depA_cons, flat_str, flat_int, atI_0, atI_1, atI_2, strL_nil, strL_cons, cut_from1, cut_from2, gLen_s, gLen_l, gLen_t, gLen_f, gB_e, gI_e, gAdd_i, gAdd_s, gAdd_l, gAdd_t, gMul_i, gMul_l, gEq, gNe, gIn_s, gIn_l, gIn_t, gIsN_e, isN_non, isN_str, isN_tup, isN_int, isN_bl, isN_lst, gAll_e, gAny_e, gInt_i, gInt_b, gList_l, gList_t, gTuple_l, gTuple_t, gMin, gMax, gIx_l, gIx_t, gIx_f, gIx_s, gSl_l, gSl_f, gSl_t, gSl_s]
          exact ⟨p, rfl, hp, fun n' hn' => h _ _ ⟨by omega, rfl⟩⟩
        rintro n4 x ⟨hn4, rfl⟩
        dsimp only
        have hpl := plain_d p
        have hdp : p.d.py.depth ≤ 64 := by have := dep_d p; have := deep_le p; have := hp.2; omega
        have hee := eqv_refl' p.d
        refine wIfS_sym false (fun P h => ?_) (fun z => by cases z) fun _ => ?_
        · unfold F__law_tuples F_show_plan
          simp [wSeq, wIfS_T, wIfS_F, wIfE_T, wIfE_F, wOrT, wAndT, wNot, wTest, wCall, wCons, wNil, wVar, wC, wChain, wRet, wRetN, wEnd, wOp, wSet, wLst, wTup, wFn, wIt, wNotV, wAndV, wOrA, wSl, wPart, wPart0, wSrc, wSrcPut, wJoin, wSplit, wPartn, wAsg, wgTup, wgCons, wgNil, wgN, wApp, wExt, wDrop, wNever, wFz, wSSet, wLSet, wPwW, wPwP, wPwInc, wMakePW, wMeth, wSetPop, wAugI, wRng1, wRng2, wTrue, wipeD, startD, poOf, and_assoc, gIsi_e, tyS_non, tyS_bl, tyS_int, tyS_str, tyS_tup, tyS_lst, tyS_dct, kitB_1, kitB_2, kitB_3, kitB_4, kitB_5, kitB_6, kitB_7, kitB_8, kitB_9, kitB_10, kitB_11, kitB_12, kitB_13, kitB_14, kitB_15, kitB_16, kitB_17, kitB_18, kitB_19, kitB_20, kitB_21, kitB_22, vw_d, vw_n, vw_b, lst_l, val_d, val_l, arg_d, arg_n, arg_b, dat_d, dat_n, dat_b, out_d, out_n, out_b, vwA_d, vwA_b, vwAs_nil, vwAs_d, vwAs_b, ardat_nil, ardat_d, txts_l, txts_t, seq_l, seq_t, seq_f, seq_s, put_d, put_n, truth_str, truth_bl, truth_tup, truth_lst, sfit_str, sfit_bl, sfit_tup, sfit_lst, frzS, eqv_int, eqv_str, eqv_bl, plain_str, plain_int, plain_bl, plain_non, plain_tup, plain_lst, plains_nil, plains_cons, py_str, py_int, py_bl, py_non, py_tup, py_lst, pys_nil, pys_cons, dep_str, dep_int, dep_bl, dep_non, dep_tup, dep_lst, depA_nil, depA_cons, flat_str, flat_int, atI_0, atI_1, atI_2, strL_nil, strL_cons, cut_from1, cut_from2, gLen_s, gLen_l, gLen_t, gLen_f, gB_e, gI_e, gAdd_i, gAdd_s, gAdd_l, gAdd_t, gMul_i, gMul_l, gEq, gNe, gIn_s, gIn_l, gIn_t, gIsN_e, isN_non, isN_str, isN_tup, isN_int, isN_bl, isN_lst, gAll_e, gAny_e, gInt_i, gInt_b, gList_l, gList_t, gTuple_l, gTuple_t, gMin, gMax, gIx_l, gIx_t, gIx_f, gIx_s, gSl_l, gSl_f, gSl_t, gSl_s, hpl, hdp, hee]
          exact ⟨tdep_le (tdep_d hp.1) (by have := deep_le p; have := hp.2; omega), p, rfl, hp, by simpa using h⟩
        simp only [wEnd]
        refine wSet_i (n' := n4) (r := .n ((sset p.leaves).map .str)) (fun P h => ?_) (put_n _ _ _) ?_
        · unfold F_parts_of
          simp [wSeq, wIfS_T, wIfS_F, wIfE_T, wIfE_F, wOrT, wAndT, wNot, wTest, wCall, wCons, wNil, wVar, wC, wChain, wRet, wRetN, wEnd, wOp, wSet, wLst, wTup, wFn, wIt, wNotV, wAndV, wOrA, wSl, wPart, wPart0, wSrc, wSrcPut, wJoin, wSplit, wPartn, wAsg, wgTup, wgCons, wgNil, wgN, wApp, wExt, wDrop, wNever, wFz, wSSet, wLSet, wPwW, wPwP, wPwInc, wMakePW, wMeth, wSetPop, wAugI, wRng1, wRng2, wTrue, wipeD, startD, poOf, and_assoc, gIsi_e, tyS_non, tyS_bl, tyS_int, tyS_str, tyS_tup, tyS_lst, tyS_dct, kitB_1, kitB_2, kitB_3, kitB_4, kitB_5, kitB_6, kitB_7, kitB_8, kitB_9, kitB_10, kitB_11, kitB_12, kitB_13, kitB_14, kitB_15, kitB_16, kitB_17, kitB_18, kitB_19, kitB_20, kitB_21, kitB_22, vw_d, vw_n, vw_b, lst_l, val_d, val_l, arg_d, arg_n, arg_b, dat_d, dat_n, dat_b, out_d, out_n, out_b, vwA_d, vwA_b, vwAs_nil, vwAs_d, vwAs_b, ardat_nil, ardat_d, txts_l, txts_t, seq_l, seq_t, seq_f, seq_s, put_d, put_n, truth_str, truth_bl, truth_tup, truth_lst, sfit_str, sfit_bl, sfit_tup, sfit_lst, frzS, eqv_int, eqv_str, eqv_bl, plain_str, plain_int, plain_bl, plain_non, plain_tup, plain_lst, plains_nil, plains_cons, py_str, py_int, py_bl, py_non, py_tup, py_lst, pys_nil, pys_cons, dep_str, dep_int, dep_bl, dep_non, dep_tup, dep_lst, depA_nil, depA_cons, flat_str, flat_int, atI_0, atI_1, atI_2, strL_nil, strL_cons, cut_from1, cut_from2, gLen_s, gLen_l, gLen_t, gLen_f, gB_e, gI_e, gAdd_i, gAdd_s, gAdd_l, gAdd_t, gMul_i, gMul_l, gEq, gNe, gIn_s, gIn_l, gIn_t, gIsN_e, isN_non, isN_str, isN_tup, isN_int, isN_bl, isN_lst, gAll_e, gAny_e, gInt_i, gInt_b, gList_l, gList_t, gTuple_l, gTuple_t, gMin, gMax, gIx_l, gIx_t, gIx_f, gIx_s, gSl_l, gSl_f, gSl_t, gSl_s]
          exact ⟨p, rfl, hp, h⟩
        dsimp only
        have hls : (sset p.leaves).length ≤ 40 := by
          have h1 := (sset_perm p.leaves).length_eq
          have h2 := (dd_len p.leaves).1
          have h3 := leaves_le p
          have h4 := hp.2
          omega
        refine wIfS_sym false (fun P h => ?_) (fun z => by cases z) fun _ => ?_
        · unfold F_parts_from_left
          have e2 : (D.lst ((sset p.leaves).map .str)).eqv (.lst ((sset p.leaves).map .str)) = true := eqv_refl' _
          simp [wSeq, wIfS_T, wIfS_F, wIfE_T, wIfE_F, wOrT, wAndT, wNot, wTest, wCall, wCons, wNil, wVar, wC, wChain, wRet, wRetN, wEnd, wOp, wSet, wLst, wTup, wFn, wIt, wNotV, wAndV, wOrA, wSl, wPart, wPart0, wSrc, wSrcPut, wJoin, wSplit, wPartn, wAsg, wgTup, wgCons, wgNil, wgN, wApp, wExt, wDrop, wNever, wFz, wSSet, wLSet, wPwW, wPwP, wPwInc, wMakePW, wMeth, wSetPop, wAugI, wRng1, wRng2, wTrue, wipeD, startD, poOf, and_assoc, gIsi_e, tyS_non, tyS_bl, tyS_int, tyS_str, tyS_tup, tyS_lst, tyS_dct, kitB_1, kitB_2, kitB_3, kitB_4, kitB_5, kitB_6, kitB_7, kitB_8, kitB_9, kitB_10, kitB_11, kitB_12, kitB_13, kitB_14, kitB_15, kitB_16, kitB_17, kitB_18, kitB_19, kitB_20, kitB_21, kitB_22, vw_d, vw_n, vw_b, lst_l, val_d, val_l, arg_d, arg_n, arg_b, dat_d, dat_n, dat_b, out_d, out_n, out_b, vwA_d, vwA_b, vwAs_nil, vwAs_d, vwAs_b, ardat_nil, ardat_d, txts_l, txts_t, seq_l, seq_t, seq_f, seq_s, put_d, put_n, truth_str, truth_bl, truth_tup, truth_lst, sfit_str, sfit_bl, sfit_tup, sfit_lst, frzS, eqv_int, eqv_str, eqv_bl, plain_str, plain_int, plain_bl, plain_non, plain_tup, plain_lst, plains_nil, plains_cons, py_str, py_int, py_bl, py_non, py_tup, py_lst, pys_nil, pys_cons, dep_str, dep_int, dep_bl, dep_non, dep_tup, dep_lst, depA_nil, depA_cons, flat_str, flat_int, atI_0, atI_1, atI_2, strL_nil, strL_cons, cut_from1, cut_from2, gLen_s, gLen_l, gLen_t, gLen_f, gB_e, gI_e, gAdd_i, gAdd_s, gAdd_l, gAdd_t, gMul_i, gMul_l, gEq, gNe, gIn_s, gIn_l, gIn_t, gIsN_e, isN_non, isN_str, isN_tup, isN_int, isN_bl, isN_lst, gAll_e, gAny_e, gInt_i, gInt_b, gList_l, gList_t, gTuple_l, gTuple_t, gMin, gMax, gIx_l, gIx_t, gIx_f, gIx_s, gSl_l, gSl_f, gSl_t, gSl_s, plains_strs, depA_strs]
          refine ⟨p, rfl, hp.1, Nat.le_trans (deep_le p) hp.2, by have := leaves_le p; have := hp.2; omega, _, D.strL_map _, by unfold scanBound; have := leaves_le p; have := hp.2; omega, ?_⟩
          simp [wSeq, wIfS_T, wIfS_F, wIfE_T, wIfE_F, wOrT, wAndT, wNot, wTest, wCall, wCons, wNil, wVar, wC, wChain, wRet, wRetN, wEnd, wOp, wSet, wLst, wTup, wFn, wIt, wNotV, wAndV, wOrA, wSl, wPart, wPart0, wSrc, wSrcPut, wJoin, wSplit, wPartn, wAsg, wgTup, wgCons, wgNil, wgN, wApp, wExt, wDrop, wNever, wFz, wSSet, wLSet, wPwW, wPwP, wPwInc, wMakePW, wMeth, wSetPop, wAugI, wRng1, wRng2, wTrue, wipeD, startD, poOf, and_assoc, gIsi_e, tyS_non, tyS_bl, tyS_int, tyS_str, tyS_tup, tyS_lst, tyS_dct, kitB_1, kitB_2, kitB_3, kitB_4, kitB_5, kitB_6, kitB_7, kitB_8, kitB_9, kitB_10, kitB_11, kitB_12, kitB_13, kitB_14, kitB_15, kitB_16, kitB_17, kitB_18, kitB_19, kitB_20, kitB_21, kitB_22, vw_d, vw_n, vw_b, lst_l, val_d, val_l, arg_d, arg_n, arg_b, dat_d, dat_n, dat_b, out_d, out_n, out_b, vwA_d, vwA_b, vwAs_nil, vwAs_d, vwAs_b, ardat_nil, ardat_d, txts_l, txts_t, seq_l, seq_t, seq_f, seq_s, put_d, put_n, truth_str, truth_bl, truth_tup, truth_lst, sfit_str, sfit_bl, sfit_tup, sfit_lst, frzS, eqv_int, eqv_str, eqv_bl, plain_str, plain_int, plain_bl, plain_non, plain_tup, plain_lst, plains_nil, plains_cons, py_str, py_int, py_bl, py_non, py_tup, py_lst, pys_nil, pys_cons, dep_str, dep_int, dep_bl, dep_non, dep_tup, dep_lst, depA_nil, depA_cons, flat_str, flat_int, atI_0, atI_1, atI_2, strL_nil, strL_cons, cut_from1, cut_from2, gLen_s, gLen_l, gLen_t, gLen_f, gB_e, gI_e, gAdd_i, gAdd_s, gAdd_l, gAdd_t, gMul_i, gMul_l, gEq, gNe, gIn_s, gIn_l, gIn_t, gIsN_e, isN_non, isN_str, isN_tup, isN_int, isN_bl, isN_lst, gAll_e, gAny_e, gInt_i, gInt_b, gList_l, gList_t, gTuple_l, gTuple_t, gMin, gMax, gIx_l, gIx_t, gIx_f, gIx_s, gSl_l, gSl_f, gSl_t, gSl_s, plains_strs, depA_strs, e2]
          exact h
        simp only [wEnd]
        simp [wSeq, wIfS_T, wIfS_F, wIfE_T, wIfE_F, wOrT, wAndT, wNot, wTest, wCall, wCons, wNil, wVar, wC, wChain, wRet, wRetN, wEnd, wOp, wSet, wLst, wTup, wFn, wIt, wNotV, wAndV, wOrA, wSl, wPart, wPart0, wSrc, wSrcPut, wJoin, wSplit, wPartn, wAsg, wgTup, wgCons, wgNil, wgN, wApp, wExt, wDrop, wNever, wFz, wSSet, wLSet, wPwW, wPwP, wPwInc, wMakePW, wMeth, wSetPop, wAugI, wRng1, wRng2, wTrue, wipeD, startD, poOf, and_assoc, gIsi_e, tyS_non, tyS_bl, tyS_int, tyS_str, tyS_tup, tyS_lst, tyS_dct, kitB_1, kitB_2, kitB_3, kitB_4, kitB_5, kitB_6, kitB_7, kitB_8, kitB_9, kitB_10, kitB_11, kitB_12, kitB_13, kitB_14, kitB_15, kitB_16, kitB_17, kitB_18, kitB_19, kitB_20, kitB_21, kitB_22, vw_d, vw_n, vw_b, lst_l, val_d, val_l, arg_d, arg_n, arg_b, dat_d, dat_n, dat_b, out_d, out_n, out_b, vwA_d, vwA_b, vwAs_nil, vwAs_d, vwAs_b, ardat_nil, ardat_d, txts_l, txts_t, seq_l, seq_t, seq_f, seq_s, put_d, put_n, truth_str, truth_bl, truth_tup, truth_lst, sfit_str, sfit_bl, sfit_tup, sfit_lst, frzS, eqv_int, eqv_str, eqv_bl, plain_str, plain_int, plain_bl, plain_non, plain_tup, plain_lst, plains_nil, plains_cons, py_str, py_int, py_bl, py_non, py_tup, py_lst, pys_nil, pys_cons, dep_str, dep_int, dep_bl, dep_non, dep_tup, dep_lst, depA_nil, depA_cons, flat_str, flat_int, atI_0, atI_1, atI_2, strL_nil, strL_cons, cut_from1, cut_from2, gLen_s, gLen_l, gLen_t, gLen_f, gB_e, gI_e, gAdd_i, gAdd_s, gAdd_l, gAdd_t, gMul_i, gMul_l, gEq, gNe, gIn_s, gIn_l, gIn_t, gIsN_e, isN_non, isN_str, isN_tup, isN_int, isN_bl, isN_lst, gAll_e, gAny_e, gInt_i, gInt_b, gList_l, gList_t, gTuple_l, gTuple_t, gMin, gMax, gIx_l, gIx_t, gIx_f, gIx_s, gSl_l, gSl_f, gSl_t, gSl_s, sizeLine_eq]
        exact ⟨by omega, by omega⟩
      · rintro δ m' ⟨hm', s5, s6, s7, rfl⟩
        exact ⟨by omega, _, _, _, _, _, _, _, rfl⟩
    · rintro δ m ⟨hm, s1, s2, s3, s4, s5, s6, s7, rfl⟩
      simp [wSeq, wIfS_T, wIfS_F, wIfE_T, wIfE_F, wOrT, wAndT, wNot, wTest, wCall, wCons, wNil, wVar, wC, wChain, wRet, wRetN, wEnd, wOp, wSet, wLst, wTup, wFn, wIt, wNotV, wAndV, wOrA, wSl, wPart, wPart0, wSrc, wSrcPut, wJoin, wSplit, wPartn, wAsg, wgTup, wgCons, wgNil, wgN, wApp, wExt, wDrop, wNever, wFz, wSSet, wLSet, wPwW, wPwP, wPwInc, wMakePW, wMeth, wSetPop, wAugI, wRng1, wRng2, wTrue, wipeD, startD, poOf, and_assoc, gIsi_e, tyS_non, tyS_bl, tyS_int, tyS_str, tyS_tup, tyS_lst, tyS_dct, kitB_1, kitB_2, kitB_3, kitB_4, kitB_5, kitB_6, kitB_7, kitB_8, kitB_9, kitB_10, kitB_11, kitB_12, kitB_13, kitB_14, kitB_15, kitB_16, kitB_17, kitB_18, kitB_19, kitB_20, kitB_21, kitB_22, vw_d, vw_n, vw_b, lst_l, val_d, val_l, arg_d, arg_n, arg_b, dat_d, dat_n, dat_b, out_d, out_n, out_b, vwA_d, vwA_b, vwAs_nil, vwAs_d, vwAs_b, ardat_nil, ardat_d, txts_l, txts_t, seq_l, seq_t, seq_f, seq_s, put_d, put_n, truth_str, truth_bl, truth_tup, truth_lst, sfit_str, sfit_bl, sfit_tup, sfit_lst, frzS, eqv_int, eqv_str, eqv_bl, plain_str, plain_int, plain_bl, plain_non, plain_tup, plain_lst, plains_nil, plains_cons, py_str, py_int, py_bl, py_non, py_tup, py_lst, pys_nil, pys_cons, dep_str, dep_int, dep_bl, dep_non, dep_tup, dep_lst, depA_nil, depA_cons, flat_str, flat_int, atI_0, atI_1, atI_2, strL_nil, strL_cons, cut_from1, cut_from2, gLen_s, gLen_l, gLen_t, gLen_f, gB_e, gI_e, gAdd_i, gAdd_s, gAdd_l, gAdd_t, gMul_i, gMul_l, gEq, gNe, gIn_s, gIn_l, gIn_t, gIsN_e, isN_non, isN_str, isN_tup, isN_int, isN_bl, isN_lst, gAll_e, gAny_e, gInt_i, gInt_b, gList_l, gList_t, gTuple_l, gTuple_t, gMin, gMax, gIx_l, gIx_t, gIx_f, gIx_s, gSl_l, gSl_f, gSl_t, gSl_s]
      exact hR m
end DL
namespace DL
open PySem PySem.Spec PyProof.Rows L2
theorem deep_pos (p : Pl) : 1 ≤ p.deep := by cases p <;> simp [Pl.deep]
theorem dok_none {P : Program} {wd : World} {K : PySem.W.Frag} {mg : PySem.Str → Option Value} {base : Heap} {k : Nat} {f : Addr} {fd : FuncData} {ps : List PySem.Str} {F : FW} (h : ∀ ds n R PX, ¬ F ds n R PX) : FnOk P wd K mg base (L2.CX P wd) k f fd ps (spOf ps.length K F) :=
  ⟨fun vs H Q E q => q.1, fun A outer s H args us vs Q E _ _ _ _ q => by
    obtain ⟨_, _, _, ds, _, _, _, _, hF, _⟩ := q
    exact (h _ _ _ _ hF).elim⟩
end DL
namespace DL
namespace K68
open PySem PySem.Spec PyProof.Rows L2
def top (i : Nat) : Stmt := PySem.Challenge.pw_curtain_k68_plans_as_texts.main.body.getD i (.Pass ⟨0, 0, 0, 0⟩)
abbrev s_is_name : Stmt := top 7
abbrev s_is_sign : Stmt := top 8
abbrev s_is_part_name : Stmt := top 14
abbrev s_plans_in : Stmt := top 15
abbrev s_names_text : Stmt := top 16
abbrev s_words_of : Stmt := top 17
abbrev s_show_plan : Stmt := top 18
abbrev s_names_in : Stmt := top 19
abbrev s_pairs_in : Stmt := top 20
abbrev s_PlanWords___init__ : Stmt := inClass (top 21) 0
abbrev s_PlanWords_word : Stmt := inClass (top 21) 1
abbrev s_PlanWords_sure : Stmt := inClass (top 21) 2
abbrev s_PlanWords_plan_in : Stmt := inClass (top 21) 3
abbrev s_PlanWords_ended : Stmt := inClass (top 21) 4
abbrev s_read_plan : Stmt := top 22
abbrev s_parts_from_left : Stmt := top 23
abbrev s_parts_of : Stmt := top 24
abbrev s__law_source_of : Stmt := top 26
abbrev s__law_next : Stmt := top 27
abbrev s__law_one : Stmt := top 28
abbrev s__law_word : Stmt := top 29
abbrev s__law_names_of : Stmt := top 30
abbrev s__law_pairs_of : Stmt := top 31
abbrev s__law_plan : Stmt := top 32
abbrev s__law_words_of : Stmt := top 33
abbrev s__law_inner : Stmt := top 34
abbrev s__law_named : Stmt := top 35
abbrev s__law_tuples : Stmt := top 36
abbrev s_law : Stmt := top 37
structure Txt (K : PySem.W.Frag) (mg : PySem.Str → Option Value) where
  C : Addr
  pwc : PwC K C
  fi : Addr
  fdi : FuncData
  pwm : Mk K C fi
  pwf : Fun K "__init__" "PlanWords.__init__" s_PlanWords___init__ fi fdi
  pwb : Binds K fdi ["self", "words"] []
  pwg : mg "PlanWords" = some (.ref C)
  all : mg "all" = none
  isinstance : mg "isinstance" = none
  str : mg "str" = none
  len : mg "len" = none
  list : mg "list" = none
  tuple : mg "tuple" = none
  set : mg "set" = none
  min : mg "min" = none
  sorted : mg "sorted" = none
  int : mg "int" = none
  range : mg "range" = none
  MOST_LETTERS : ∃ t, mg "MOST_LETTERS" = some (.int 8 t)
  LETTERS : ∃ t, mg "LETTERS" = some (.str (S (q "abcdefghijklmnopqrstuvwxyz")) t)
  HUSH : ∃ t, mg "HUSH" = some (.str (S (q ".")) t)
  WORDS : TupC K mg "WORDS" [(q "stop"), (q "part"), (q "ahead"), (q "pick"), (q "offer"), (q "beside"), (q "hide"), (q "rename")]
  TWO : TupC K mg "TWO" [(q "pick"), (q "offer")]
  NONE : ∃ t, mg "NONE" = some (.str (S (q "-")) t)
  MOST_WORDS : ∃ t, mg "MOST_WORDS" = some (.int 40 t)
  is_name : Df K mg "is_name" s_is_name ["thing"]
  is_sign : Df K mg "is_sign" s_is_sign ["thing"]
  is_part_name : Df K mg "is_part_name" s_is_part_name ["thing"]
  plans_in : Df K mg "plans_in" s_plans_in ["plan"]
  names_text : Df K mg "names_text" s_names_text ["names"]
  words_of : Df K mg "words_of" s_words_of ["plan"]
  show_plan : Df K mg "show_plan" s_show_plan ["plan"]
  names_in : Df K mg "names_in" s_names_in ["word"]
  pairs_in : Df K mg "pairs_in" s_pairs_in ["word"]
  PlanWords_word : Mf K C "word" "PlanWords.word" s_PlanWords_word ["self"]
  PlanWords_sure : Mf K C "sure" "PlanWords.sure" s_PlanWords_sure ["self", "thing"]
  PlanWords_plan_in : Mf K C "plan_in" "PlanWords.plan_in" s_PlanWords_plan_in ["self"]
  PlanWords_ended : Mf K C "ended" "PlanWords.ended" s_PlanWords_ended ["self"]
  read_plan : Df K mg "read_plan" s_read_plan ["text"]
  parts_from_left : Df K mg "parts_from_left" s_parts_from_left ["plan"]
  parts_of : Df K mg "parts_of" s_parts_of ["plan"]
  _law_source_of : Df K mg "_law_source_of" s__law_source_of ["_law_cell"]
  _law_next : Df K mg "_law_next" s__law_next ["_law_source", "_law_many"]
  _law_one : Df K mg "_law_one" s__law_one ["_law_source", "_law_some"]
  _law_word : Df K mg "_law_word" s__law_word ["_law_source"]
  _law_names_of : Df K mg "_law_names_of" s__law_names_of ["_law_source"]
  _law_pairs_of : Df K mg "_law_pairs_of" s__law_pairs_of ["_law_source"]
  _law_plan : Df K mg "_law_plan" s__law_plan ["_law_source", "_law_most"]
  _law_words_of : Df K mg "_law_words_of" s__law_words_of ["_law_plan_here"]
  _law_inner : Df K mg "_law_inner" s__law_inner ["_law_plan_here"]
  _law_named : Df K mg "_law_named" s__law_named ["_law_plan_here"]
  _law_tuples : Df K mg "_law_tuples" s__law_tuples ["_law_thing"]
  law_ : Df K mg "law" s_law ["_law_script"]
section
variable {P : Program} {wd : World} {K : PySem.W.Frag} {mg : PySem.Str → Option Value} {base : Heap}
theorem sc_is_name : FnScope ["thing", "letter"] ["thing"] (defScope s_is_name) := ⟨rfl, rfl, rfl, by decide +kernel, rfl, by decide +kernel, by decide +kernel⟩
theorem ok_is_name (T : Txt K mg) : DOk P wd K mg base 1 T.is_name (F_is_name) :=
  fun_d (w := w_is_name) T.is_name.F sc_is_name (fun cdv A outer s H E hr =>
    (sds_cons (sd_if (TW.td (tw_or (td_not (td_val (pd_callB call_isi call_isiD rfl T.isinstance (by decide +kernel) (ad_cons (pd_var 0) (ad_cons (pd_bltn (n := "str") rfl T.str (by decide +kernel)) ad_nil))))) (tw_or1 (td_not (td_chain op_le bin_B op_le bin_B pd_int (pd_callB call_len call_lenD rfl T.len PySem.boot_len (ad_cons (pd_var 0) ad_nil)) (pd_gint 8 rfl T.MOST_LETTERS))))))
      (sds_one (sd_ret pd_bl))
      sds_nil)
      (sds_one (sd_ret (pd_callB (cr_all rfl) call_allD rfl T.all (by decide +kernel) (ad_cons (pd_lc rfl sc_is_name.nd (id_any (pd_var 0)) (blkOk_by (own := [("letter", 1)]) (by show blkC ["thing", "letter"] (defScope s_is_name) _ _ = true; decide +kernel)) (fun _ _ _ _ _ => (gd_name sc_is_name.nd (i := 1) rfl (by first | exact Or.inl rfl | exact Or.inr rfl))) (fun _ _ _ _ _ => ptd_nil) (fun _ _ _ _ _ => (pd_cmp (op_inAll hr) bin_in (pd_var 1) (pd_gstr (q "abcdefghijklmnopqrstuvwxyz") rfl T.LETTERS (okS_q _))))) ad_nil)))))) (fun ds n R PX hl h => pu_is_name ds n R PX hl h)
theorem sc_is_sign : FnScope ["thing"] ["thing"] (defScope s_is_sign) := ⟨rfl, rfl, rfl, by decide +kernel, rfl, by decide +kernel, by decide +kernel⟩
theorem ok_is_sign (T : Txt K mg) : DOk P wd K mg base 2 T.is_sign (F_is_sign) :=
  fun_d (w := w_is_sign F_is_name) T.is_sign.F sc_is_sign (fun cdv A outer s H E hr =>
    (sds_one (sd_ret (pd_orA (pd_df T.is_name (ok_is_name T) (hr.mono (by omega)) rfl (ad_cons (pd_var 0) ad_nil)) (pd_one (pd_and (pd_callB call_isi call_isiD rfl T.isinstance (by decide +kernel) (ad_cons (pd_var 0) (ad_cons (pd_bltn (n := "str") rfl T.str (by decide +kernel)) ad_nil))) (pd_one (pd_cmp (op_eqAll hr) bin_eq (pd_var 0) (pd_gstr (q ".") rfl T.HUSH (okS_q _)))))))))) (fun ds n R PX hl h => pu_is_sign ds n R PX hl h)
theorem sc_is_part_name : FnScope ["thing"] ["thing"] (defScope s_is_part_name) := ⟨rfl, rfl, rfl, by decide +kernel, rfl, by decide +kernel, by decide +kernel⟩
theorem ok_is_part_name (T : Txt K mg) : DOk P wd K mg base 2 T.is_part_name (F_is_part_name) :=
  fun_d (w := w_is_part_name F_is_name) T.is_part_name.F sc_is_part_name (fun cdv A outer s H E hr =>
    (sds_one (sd_ret (pd_and (pd_df T.is_name (ok_is_name T) (hr.mono (by omega)) rfl (ad_cons (pd_var 0) ad_nil)) (pd_one (pd_cmp (op_notInAll hr) bin_notIn (pd_var 0) (pd_gtup [(q "stop"), (q "part"), (q "ahead"), (q "pick"), (q "offer"), (q "beside"), (q "hide"), (q "rename")] rfl T.WORDS))))))) (fun ds n R PX hl h => pu_is_part_name ds n R PX hl h)
theorem sc_plans_in : FnScope ["plan"] ["plan"] (defScope s_plans_in) := ⟨rfl, rfl, rfl, by decide +kernel, rfl, by decide +kernel, by decide +kernel⟩
theorem ok_plans_in (T : Txt K mg) : DOk P wd K mg base 1 T.plans_in (F_plans_in) :=
  fun_d (w := w_plans_in) T.plans_in.F sc_plans_in (fun cdv A outer s H E hr =>
    (sds_cons (sd_if (td_cmp (op_inAll hr) bin_in (pd_ix (pd_var 0) pd_int) (pd_gtup [(q "pick"), (q "offer")] rfl T.TWO))
      (sds_one (sd_ret (pd_callTy call_list_of call_listD rfl T.list (by decide +kernel) (ad_cons (pd_slice (pd_var 0) (od_some pd_int) od_none) ad_nil))))
      sds_nil)
      (sds_one (sd_ret (pd_callTy call_list_of call_listD rfl T.list (by decide +kernel) (ad_cons (pd_slice (pd_var 0) (od_some pd_int) od_none) ad_nil)))))) (fun ds n R PX hl h => pu_plans_in ds n R PX hl h)
theorem sc_names_text : FnScope ["names"] ["names"] (defScope s_names_text) := ⟨rfl, rfl, rfl, by decide +kernel, rfl, by decide +kernel, by decide +kernel⟩
theorem ok_names_text (T : Txt K mg) : DOk P wd K mg base 1 T.names_text (F_names_text) :=
  fun_d (w := w_names_text) T.names_text.F sc_names_text (fun cdv A outer s H E hr =>
    (sds_one (sd_ret (pd_ifE (td_cmp op_gt bin_B (pd_callB call_len call_lenD rfl T.len PySem.boot_len (ad_cons (pd_var 0) ad_nil)) pd_int) (pd_join (pd_str (q ",") (S_q _).symm (okS_q _)) (pd_callTy call_list_of call_listD rfl T.list (by decide +kernel) (ad_cons (pd_var 0) ad_nil))) (pd_gstr (q "-") rfl T.NONE (okS_q _)))))) (fun ds n R PX hl h => pu_names_text ds n R PX hl h)
theorem sc_words_of : FnScope ["plan", "word", "found", "one", "elder", "newer"] ["plan"] (defScope s_words_of) := ⟨rfl, rfl, rfl, by decide +kernel, rfl, by decide +kernel, by decide +kernel⟩
theorem ok_words_of (T : Txt K mg) : ∀ k : Nat, DOk P wd K mg base (k + 1) T.words_of (F_words_of k)
  | 0 => dok_none (by rintro ds n R PX ⟨p, rfl, hp, hd, _⟩; have := deep_pos p; omega)
  | k + 1 => by
    have G_words_of := ok_words_of T k
    exact fun_d (w := w_words_of F_names_text F_plans_in (F_words_of k)) T.words_of.F sc_words_of (fun cdv A outer s H E hr =>
      (sds_cons (sd_set (i := 1) sc_words_of.nd rfl (by first | exact Or.inl rfl | exact Or.inr rfl) (pd_ix (pd_var 0) pd_int))
      (sds_cons (sd_if (td_cmp (op_eqAll hr) bin_eq (pd_var 1) (pd_str (q "part") (S_q _).symm (okS_q _)))
      (sds_one (sd_ret (pd_lst (ad_cons (pd_ix (pd_var 0) pd_int) ad_nil))))
      sds_nil)
      (sds_cons (sd_set (i := 2) sc_words_of.nd rfl (by first | exact Or.inl rfl | exact Or.inr rfl) (pd_lst (ad_cons (pd_var 1) ad_nil)))
      (sds_cons (sd_if (td_cmp (op_eqAll hr) bin_eq (pd_var 1) (pd_str (q "ahead") (S_q _).symm (okS_q _)))
      (sds_one (sd_app 2 (pd_ix (pd_var 0) pd_int)))
      sds_nil)
      (sds_cons (sd_if (TW.td (tw_or (td_cmp (op_eqAll hr) bin_eq (pd_var 1) (pd_str (q "beside") (S_q _).symm (okS_q _))) (tw_or1 (td_cmp (op_eqAll hr) bin_eq (pd_var 1) (pd_str (q "hide") (S_q _).symm (okS_q _))))))
      (sds_one (sd_app 2 (pd_df T.names_text (ok_names_text T) (hr.mono (by omega)) rfl (ad_cons (pd_ix (pd_var 0) pd_int) ad_nil))))
      sds_nil)
      (sds_cons (sd_if (td_cmp (op_eqAll hr) bin_eq (pd_var 1) (pd_str (q "rename") (S_q _).symm (okS_q _)))
      (sds_one (sd_app 2 (pd_df T.names_text (ok_names_text T) (hr.mono (by omega)) rfl (ad_cons (pd_lc rfl sc_words_of.nd (id_any (pd_ix (pd_var 0) pd_int)) (blkOk_by (own := [("elder", 4), ("newer", 5)]) (by show blkC ["plan", "word", "found", "one", "elder", "newer"] (defScope s_words_of) _ _ = true; decide +kernel)) (fun _ _ _ _ _ => (gd_tup rfl (gds_cons (gd_name sc_words_of.nd (i := 4) rfl (by first | exact Or.inl rfl | exact Or.inr rfl)) (gds_cons (gd_name sc_words_of.nd (i := 5) rfl (by first | exact Or.inl rfl | exact Or.inr rfl)) gds_nil)))) (fun _ _ _ _ _ => ptd_nil) (fun _ _ _ _ _ => (pd_op op_plus bin_plus (pd_op op_plus bin_plus (pd_var 4) (pd_str (q ">") (S_q _).symm (okS_q _))) (pd_var 5)))) ad_nil))))
      sds_nil)
      (sds_cons (sd_for PassesOwn.never rfl (id_any (pd_df T.plans_in (ok_plans_in T) (hr.mono (by omega)) rfl (ad_cons (pd_var 0) ad_nil))) (gd_name sc_words_of.nd (i := 3) rfl (by first | exact Or.inl rfl | exact Or.inr rfl))
      (sds_one (sd_ext 2 (pd_df T.words_of G_words_of (hr.mono (by omega)) rfl (ad_cons (pd_var 3) ad_nil)))))
      (sds_one (sd_ret (pd_var 2))))))))))) (fun ds n R PX hl h => pu_words_of k ds n R PX hl h)
theorem sc_show_plan : FnScope ["plan"] ["plan"] (defScope s_show_plan) := ⟨rfl, rfl, rfl, by decide +kernel, rfl, by decide +kernel, by decide +kernel⟩
theorem ok_show_plan (T : Txt K mg) : DOk P wd K mg base 42 T.show_plan (F_show_plan) :=
  fun_d (w := w_show_plan (F_words_of 40)) T.show_plan.F sc_show_plan (fun cdv A outer s H E hr =>
    (sds_one (sd_ret (pd_join (pd_str (q " ") (S_q _).symm (okS_q _)) (pd_df T.words_of (ok_words_of T 40) (hr.mono (by omega)) rfl (ad_cons (pd_var 0) ad_nil)))))) (fun ds n R PX hl h => pu_show_plan ds n R PX hl h)
theorem sc_names_in : FnScope ["word", "names", "name"] ["word"] (defScope s_names_in) := ⟨rfl, rfl, rfl, by decide +kernel, rfl, by decide +kernel, by decide +kernel⟩
theorem ok_names_in (T : Txt K mg) : DOk P wd K mg base 2 T.names_in (F_names_in) :=
  fun_d (w := w_names_in F_is_name) T.names_in.F sc_names_in (fun cdv A outer s H E hr =>
    (sds_cons (sd_if (td_cmp (op_eqAll hr) bin_eq (pd_var 0) (pd_gstr (q "-") rfl T.NONE (okS_q _)))
      (sds_one (sd_ret (pd_tup ad_nil)))
      sds_nil)
      (sds_cons (sd_set (i := 1) sc_names_in.nd rfl (by first | exact Or.inl rfl | exact Or.inr rfl) (pd_split (pd_var 0) (pd_str (q ",") (S_q _).symm (okS_q _))))
      (sds_fz 1 (sds_cons (sd_if (TW.td (tw_or (td_not (td_val (pd_callB (cr_all rfl) call_allD rfl T.all (by decide +kernel) (ad_cons (pd_lc rfl sc_names_in.nd (id_any (pd_var 1)) (blkOk_by (own := [("name", 2)]) (by show blkC ["word", "names", "name"] (defScope s_names_in) _ _ = true; decide +kernel)) (fun _ _ _ _ _ => (gd_name sc_names_in.nd (i := 2) rfl (by first | exact Or.inl rfl | exact Or.inr rfl))) (fun _ _ _ _ _ => ptd_nil) (fun _ _ _ _ _ => (pd_df T.is_name (ok_is_name T) (hr.mono (by omega)) rfl (ad_cons (pd_var 2) ad_nil)))) ad_nil)))) (tw_or1 (td_cmp op_lt bin_B (pd_lset rfl rfl T.len rfl T.set (pd_var 1)) (pd_callB call_len call_lenD rfl T.len PySem.boot_len (ad_cons (pd_var 1) ad_nil))))))
      (sds_one (sd_ret pd_non))
      sds_nil)
      (sds_one (sd_ret (pd_callTy call_tuple_of call_tupleD rfl T.tuple (by decide +kernel) (ad_cons (pd_var 1) ad_nil))))))))) (fun ds n R PX hl h => pu_names_in ds n R PX hl h)
theorem sc_pairs_in : FnScope ["word", "pairs", "part", "elder", "sign", "newer", "pair"] ["word"] (defScope s_pairs_in) := ⟨rfl, rfl, rfl, by decide +kernel, rfl, by decide +kernel, by decide +kernel⟩
theorem ok_pairs_in (T : Txt K mg) : DOk P wd K mg base 2 T.pairs_in (F_pairs_in) :=
  fun_d (w := w_pairs_in F_is_name) T.pairs_in.F sc_pairs_in (fun cdv A outer s H E hr =>
    (sds_cons (sd_if (td_cmp (op_eqAll hr) bin_eq (pd_var 0) (pd_gstr (q "-") rfl T.NONE (okS_q _)))
      (sds_one (sd_ret (pd_tup ad_nil)))
      sds_nil)
      (sds_cons (sd_set (i := 1) sc_pairs_in.nd rfl (by first | exact Or.inl rfl | exact Or.inr rfl) (pd_lst ad_nil))
      (sds_cons (sd_for PassesOwn.never rfl (id_any (pd_split (pd_var 0) (pd_str (q ",") (S_q _).symm (okS_q _)))) (gd_name sc_pairs_in.nd (i := 2) rfl (by first | exact Or.inl rfl | exact Or.inr rfl))
      (sds_cons (sd_asg (pd_partition (pd_var 2) (pd_str (q ">") (S_q _).symm (okS_q _))) (gd_tup rfl (gds_cons (gd_name sc_pairs_in.nd (i := 3) rfl (by first | exact Or.inl rfl | exact Or.inr rfl)) (gds_cons (gd_name sc_pairs_in.nd (i := 4) rfl (by first | exact Or.inl rfl | exact Or.inr rfl)) (gds_cons (gd_name sc_pairs_in.nd (i := 5) rfl (by first | exact Or.inl rfl | exact Or.inr rfl)) gds_nil)))))
      (sds_cons (sd_if (TW.td (tw_or (td_not (td_val (pd_df T.is_name (ok_is_name T) (hr.mono (by omega)) rfl (ad_cons (pd_var 3) ad_nil)))) (tw_or1 (td_not (td_val (pd_df T.is_name (ok_is_name T) (hr.mono (by omega)) rfl (ad_cons (pd_var 5) ad_nil)))))))
      (sds_one (sd_ret pd_non))
      sds_nil)
      (sds_one (sd_app 1 (pd_tup (ad_cons (pd_var 3) (ad_cons (pd_var 5) ad_nil))))))))
      (sds_fz 1 (sds_cons (sd_if (td_cmp op_lt bin_B (pd_lset rfl rfl T.len rfl T.set (pd_lc rfl sc_pairs_in.nd (id_any (pd_var 1)) (blkOk_by (own := [("pair", 6)]) (by show blkC ["word", "pairs", "part", "elder", "sign", "newer", "pair"] (defScope s_pairs_in) _ _ = true; decide +kernel)) (fun _ _ _ _ _ => (gd_name sc_pairs_in.nd (i := 6) rfl (by first | exact Or.inl rfl | exact Or.inr rfl))) (fun _ _ _ _ _ => ptd_nil) (fun _ _ _ _ _ => (pd_ix (pd_var 6) pd_int)))) (pd_callB call_len call_lenD rfl T.len PySem.boot_len (ad_cons (pd_var 1) ad_nil)))
      (sds_one (sd_ret pd_non))
      sds_nil)
      (sds_one (sd_ret (pd_callTy call_tuple_of call_tupleD rfl T.tuple (by decide +kernel) (ad_cons (pd_var 1) ad_nil)))))))))) (fun ds n R PX hl h => pu_pairs_in ds n R PX hl h)
theorem sc_PlanWords___init__ : FnScope ["self", "words"] ["self", "words"] (defScope s_PlanWords___init__) := ⟨rfl, rfl, rfl, by decide +kernel, rfl, by decide +kernel, by decide +kernel⟩
theorem ok_PlanWords___init__ (T : Txt K mg) : FnOk P wd K mg base (L2.CX P wd) 1 T.fi T.fdi ["self", "words"] (spInitPW T.C) := by
  refine T.pwf.okX sc_PlanWords___init__ (fun vs H Q E h => ?_) (fun cdv A outer s H vs Q E hr h => ?_)
  · obtain ⟨p, dx, w, rfl, _⟩ := h
    rfl
  · obtain ⟨p, dx, w, rfl, hp, hQ⟩ := h
    refine ⟨_, (pss_cons (ps_fld (pv 0) (pv 1) rfl) (pss_one (ps_fld (pv 0) pe_int rfl))).nox, ?_⟩
    refine ⟨_, rfl, _, rfl, p, T.C, dx, [], rfl, hp, T.pwc.cl, T.pwc.w, (by show 0 < 1000; decide), _, rfl, p, T.C, dx, _, rfl, upd_same, T.pwc.cl, T.pwc.p, (by show 1 < 1000; decide), ?_⟩
    rw [pwF_new]
    have e : upd (upd H p (.ins T.C dx (putF "words" w []))) p (.ins T.C dx (pwF w 0)) = upd H p (.ins T.C dx (pwF w 0)) := by
      funext b
      by_cases z : b = p
      · subst z; rw [upd_same, upd_same]
      · rw [upd_ne z, upd_ne z, upd_ne z]
    show Q .non (upd (upd H p _) p _)
    rw [e]
    exact hQ
theorem sc_PlanWords_word : FnScope ["self"] ["self"] (defScope s_PlanWords_word) := ⟨rfl, rfl, rfl, by decide +kernel, rfl, by decide +kernel, by decide +kernel⟩
theorem ok_PlanWords_word (T : Txt K mg) : MOk P wd K mg base 1 T.PlanWords_word (F_word T.C) :=
  fun_d (w := w_PlanWords_word T.C) T.PlanWords_word.F sc_PlanWords_word (fun cdv A outer s H E hr =>
    (sds_cons (sd_if (td_cmp (op_eqAll hr) bin_eq (pd_pwP T.pwc (pd_var 0)) (pd_callB (call_min2 rfl) call_minD rfl T.min (by decide +kernel) (ad_cons (pd_callB call_len call_lenD rfl T.len PySem.boot_len (ad_cons (pd_pwW T.pwc (pd_var 0)) ad_nil)) (ad_cons (pd_gint 40 rfl T.MOST_WORDS) ad_nil))))
      sds_never
      sds_nil)
      (sds_cons (sd_pwInc T.pwc (i := 0))
      (sds_one (sd_ret (pd_ix (pd_pwW T.pwc (pd_var 0)) (pd_op op_sub bin_I0 (pd_pwP T.pwc (pd_var 0)) pd_int))))))) (fun ds n R PX hl h => pu_word T.C ds n R PX hl h)
theorem sc_PlanWords_sure : FnScope ["self", "thing"] ["self", "thing"] (defScope s_PlanWords_sure) := ⟨rfl, rfl, rfl, by decide +kernel, rfl, by decide +kernel, by decide +kernel⟩
theorem ok_PlanWords_sure (T : Txt K mg) : MOk P wd K mg base 1 T.PlanWords_sure (F_sure T.C) :=
  fun_d (w := w_PlanWords_sure) T.PlanWords_sure.F sc_PlanWords_sure (fun cdv A outer s H E hr =>
    (sds_cons (sd_if (td_cmp op_isN bin_isN (pd_var 1) pd_non)
      sds_never
      sds_nil)
      (sds_one (sd_ret (pd_var 1))))) (fun ds n R PX hl h => pu_sure T.C ds n R PX hl h)
theorem sc_PlanWords_plan_in : FnScope ["self", "word", "said", "found", "one"] ["self"] (defScope s_PlanWords_plan_in) := ⟨rfl, rfl, rfl, by decide +kernel, rfl, by decide +kernel, by decide +kernel⟩
theorem ok_PlanWords_plan_in (T : Txt K mg) : ∀ k : Nat, MOk P wd K mg base (k + 2) T.PlanWords_plan_in (F_plan_in T.C k)
  | 0 => dok_none (by rintro ds n R PX ⟨a, W, i, p, _, _, _, _, _, _, hd, _⟩; have := deep_pos p; omega)
  | k + 1 => by
    have G_PlanWords_plan_in := ok_PlanWords_plan_in T k
    exact fun_d (w := w_PlanWords_plan_in T.C (F_word T.C) F_is_part_name (F_sure T.C) (F_plan_in T.C k) F_is_sign F_pairs_in F_names_in) T.PlanWords_plan_in.F sc_PlanWords_plan_in (fun cdv A outer s H E hr =>
      (sds_cons (sd_set (i := 1) sc_PlanWords_plan_in.nd rfl (by first | exact Or.inl rfl | exact Or.inr rfl) (pd_meth0 T.pwc.cl T.PlanWords_word.m (ok_PlanWords_word T) (hr.mono (by omega)) T.PlanWords_word.b (pd_var 0)))
      (sds_cons (sd_if (td_val (pd_df T.is_part_name (ok_is_part_name T) (hr.mono (by omega)) rfl (ad_cons (pd_var 1) ad_nil)))
      (sds_one (sd_ret (pd_tup (ad_cons (pd_str (q "part") (S_q _).symm (okS_q _)) (ad_cons (pd_var 1) ad_nil)))))
      sds_nil)
      (sds_cons (sd_expr (pd_meth T.pwc.cl T.PlanWords_sure.m (ok_PlanWords_sure T) (hr.mono (by omega)) T.PlanWords_sure.b (pd_var 0) (ad_cons (pd_ifE (TW.td (tw_or (td_cmp (op_eqAll hr) bin_eq (pd_var 1) (pd_str (q "part") (S_q _).symm (okS_q _))) (tw_or1 (td_cmp (op_notInAll hr) bin_notIn (pd_var 1) (pd_gtup [(q "stop"), (q "part"), (q "ahead"), (q "pick"), (q "offer"), (q "beside"), (q "hide"), (q "rename")] rfl T.WORDS))))) pd_non (pd_var 1)) ad_nil)))
      (sds_cons (sd_if (td_cmp (op_eqAll hr) bin_eq (pd_var 1) (pd_str (q "stop") (S_q _).symm (okS_q _)))
      (sds_one (sd_ret (pd_tup (ad_cons (pd_var 1) ad_nil))))
      sds_nil)
      (sds_cons (sd_if (td_cmp (op_inAll hr) bin_in (pd_var 1) (pd_gtup [(q "pick"), (q "offer")] rfl T.TWO))
      (sds_cons (sd_set (i := 4) sc_PlanWords_plan_in.nd rfl (by first | exact Or.inl rfl | exact Or.inr rfl) (pd_meth0 T.pwc.cl T.PlanWords_plan_in.m G_PlanWords_plan_in (hr.mono (by omega)) T.PlanWords_plan_in.b (pd_var 0)))
      (sds_one (sd_ret (pd_tup (ad_cons (pd_var 1) (ad_cons (pd_var 4) (ad_cons (pd_meth0 T.pwc.cl T.PlanWords_plan_in.m G_PlanWords_plan_in (hr.mono (by omega)) T.PlanWords_plan_in.b (pd_var 0)) ad_nil)))))))
      sds_nil)
      (sds_cons (sd_set (i := 2) sc_PlanWords_plan_in.nd rfl (by first | exact Or.inl rfl | exact Or.inr rfl) (pd_meth0 T.pwc.cl T.PlanWords_word.m (ok_PlanWords_word T) (hr.mono (by omega)) T.PlanWords_word.b (pd_var 0)))
      (sds_cons (sd_if (td_cmp (op_eqAll hr) bin_eq (pd_var 1) (pd_str (q "ahead") (S_q _).symm (okS_q _)))
      (sds_one (sd_set (i := 3) sc_PlanWords_plan_in.nd rfl (by first | exact Or.inl rfl | exact Or.inr rfl) (pd_tup (ad_cons (pd_var 1) (ad_cons (pd_meth T.pwc.cl T.PlanWords_sure.m (ok_PlanWords_sure T) (hr.mono (by omega)) T.PlanWords_sure.b (pd_var 0) (ad_cons (pd_ifE (td_val (pd_df T.is_sign (ok_is_sign T) (hr.mono (by omega)) rfl (ad_cons (pd_var 2) ad_nil))) (pd_var 2) pd_non) ad_nil)) ad_nil)))))
      (sds_one (sd_if (td_cmp (op_eqAll hr) bin_eq (pd_var 1) (pd_str (q "rename") (S_q _).symm (okS_q _)))
      (sds_one (sd_set (i := 3) sc_PlanWords_plan_in.nd rfl (by first | exact Or.inl rfl | exact Or.inr rfl) (pd_tup (ad_cons (pd_var 1) (ad_cons (pd_meth T.pwc.cl T.PlanWords_sure.m (ok_PlanWords_sure T) (hr.mono (by omega)) T.PlanWords_sure.b (pd_var 0) (ad_cons (pd_df T.pairs_in (ok_pairs_in T) (hr.mono (by omega)) rfl (ad_cons (pd_var 2) ad_nil)) ad_nil)) ad_nil)))))
      (sds_one (sd_set (i := 3) sc_PlanWords_plan_in.nd rfl (by first | exact Or.inl rfl | exact Or.inr rfl) (pd_tup (ad_cons (pd_var 1) (ad_cons (pd_meth T.pwc.cl T.PlanWords_sure.m (ok_PlanWords_sure T) (hr.mono (by omega)) T.PlanWords_sure.b (pd_var 0) (ad_cons (pd_df T.names_in (ok_names_in T) (hr.mono (by omega)) rfl (ad_cons (pd_var 2) ad_nil)) ad_nil)) ad_nil))))))))
      (sds_cons (sd_set (i := 3) sc_PlanWords_plan_in.nd rfl (by first | exact Or.inl rfl | exact Or.inr rfl) (pd_op op_plus bin_plus (pd_var 3) (pd_tup (ad_cons (pd_meth0 T.pwc.cl T.PlanWords_plan_in.m G_PlanWords_plan_in (hr.mono (by omega)) T.PlanWords_plan_in.b (pd_var 0)) ad_nil))))
      (sds_cons (sd_if (td_cmp (op_eqAll hr) bin_eq (pd_var 1) (pd_str (q "beside") (S_q _).symm (okS_q _)))
      (sds_one (sd_set (i := 3) sc_PlanWords_plan_in.nd rfl (by first | exact Or.inl rfl | exact Or.inr rfl) (pd_op op_plus bin_plus (pd_var 3) (pd_tup (ad_cons (pd_meth0 T.pwc.cl T.PlanWords_plan_in.m G_PlanWords_plan_in (hr.mono (by omega)) T.PlanWords_plan_in.b (pd_var 0)) ad_nil)))))
      sds_nil)
      (sds_one (sd_ret (pd_var 3))))))))))))) (fun ds n R PX hl h => pu_plan_in T.C k ds n R PX hl h)
theorem sc_PlanWords_ended : FnScope ["self"] ["self"] (defScope s_PlanWords_ended) := ⟨rfl, rfl, rfl, by decide +kernel, rfl, by decide +kernel, by decide +kernel⟩
theorem ok_PlanWords_ended (T : Txt K mg) : MOk P wd K mg base 1 T.PlanWords_ended (F_ended T.C) :=
  fun_d (w := w_PlanWords_ended T.C) T.PlanWords_ended.F sc_PlanWords_ended (fun cdv A outer s H E hr =>
    (sds_one (sd_if (td_cmp op_lt bin_B (pd_pwP T.pwc (pd_var 0)) (pd_callB call_len call_lenD rfl T.len PySem.boot_len (ad_cons (pd_pwW T.pwc (pd_var 0)) ad_nil)))
      sds_never
      sds_nil))) (fun ds n R PX hl h => pu_ended T.C ds n R PX hl h)
theorem sc_read_plan : FnScope ["text", "words", "found"] ["text"] (defScope s_read_plan) := ⟨rfl, rfl, rfl, by decide +kernel, rfl, by decide +kernel, by decide +kernel⟩
theorem ok_read_plan (T : Txt K mg) : DOk P wd K mg base 43 T.read_plan (F_read_plan) :=
  fun_d (w := w_read_plan T.C (F_plan_in T.C 40) (F_ended T.C)) T.read_plan.F sc_read_plan (fun cdv A outer s H E hr =>
    (sds_cons (sd_if (td_not (td_val (pd_callB call_isi call_isiD rfl T.isinstance (by decide +kernel) (ad_cons (pd_var 0) (ad_cons (pd_bltn (n := "str") rfl T.str (by decide +kernel)) ad_nil)))))
      sds_never
      sds_nil)
      (sds_cons (sd_set (i := 1) sc_read_plan.nd rfl (by first | exact Or.inl rfl | exact Or.inr rfl) (pd_makePW T.pwm (ok_PlanWords___init__ T) (hr.mono (by omega)) rfl T.pwg T.pwb (ad_cons (pd_split (pd_var 0) (pd_str (q " ") (S_q _).symm (okS_q _))) ad_nil)))
      (sds_cons (sd_set (i := 2) sc_read_plan.nd rfl (by first | exact Or.inl rfl | exact Or.inr rfl) (pd_meth0 T.pwc.cl T.PlanWords_plan_in.m (ok_PlanWords_plan_in T 40) (hr.mono (by omega)) T.PlanWords_plan_in.b (pd_var 1)))
      (sds_cons (sd_expr (pd_meth0 T.pwc.cl T.PlanWords_ended.m (ok_PlanWords_ended T) (hr.mono (by omega)) T.PlanWords_ended.b (pd_var 1)))
      (sds_one (sd_ret (pd_var 2)))))))) (fun ds n R PX hl h => pu_read_plan T.C ds n R PX hl h)
theorem sc_parts_from_left : FnScope ["plan", "found", "one"] ["plan"] (defScope s_parts_from_left) := ⟨rfl, rfl, rfl, by decide +kernel, rfl, by decide +kernel, by decide +kernel⟩
theorem ok_parts_from_left (T : Txt K mg) : ∀ k : Nat, DOk P wd K mg base (k + 1) T.parts_from_left (F_parts_from_left k)
  | 0 => dok_none (by rintro ds n R PX ⟨p, rfl, hp, hd, _⟩; have := deep_pos p; omega)
  | k + 1 => by
    have G_parts_from_left := ok_parts_from_left T k
    exact fun_d (w := w_parts_from_left F_plans_in (F_parts_from_left k)) T.parts_from_left.F sc_parts_from_left (fun cdv A outer s H E hr =>
      (sds_cons (sd_if (td_cmp (op_eqAll hr) bin_eq (pd_ix (pd_var 0) pd_int) (pd_str (q "part") (S_q _).symm (okS_q _)))
      (sds_one (sd_ret (pd_lst (ad_cons (pd_ix (pd_var 0) pd_int) ad_nil))))
      sds_nil)
      (sds_cons (sd_set (i := 1) sc_parts_from_left.nd rfl (by first | exact Or.inl rfl | exact Or.inr rfl) (pd_lst ad_nil))
      (sds_cons (sd_for PassesOwn.never rfl (id_any (pd_df T.plans_in (ok_plans_in T) (hr.mono (by omega)) rfl (ad_cons (pd_var 0) ad_nil))) (gd_name sc_parts_from_left.nd (i := 2) rfl (by first | exact Or.inl rfl | exact Or.inr rfl))
      (sds_one (sd_ext 1 (pd_df T.parts_from_left G_parts_from_left (hr.mono (by omega)) rfl (ad_cons (pd_var 2) ad_nil)))))
      (sds_one (sd_ret (pd_var 1))))))) (fun ds n R PX hl h => pu_parts_from_left k ds n R PX hl h)
theorem sc_parts_of : FnScope ["plan"] ["plan"] (defScope s_parts_of) := ⟨rfl, rfl, rfl, by decide +kernel, rfl, by decide +kernel, by decide +kernel⟩
theorem ok_parts_of (T : Txt K mg) : DOk P wd K mg base 42 T.parts_of (F_parts_of) :=
  fun_d (w := w_parts_of (F_parts_from_left 40)) T.parts_of.F sc_parts_of (fun cdv A outer s H E hr =>
    (sds_one (sd_ret (pd_sset rfl rfl T.sorted rfl T.set (pd_df T.parts_from_left (ok_parts_from_left T 40) (hr.mono (by omega)) rfl (ad_cons (pd_var 0) ad_nil)))))) (fun ds n R PX hl h => pu_parts_of ds n R PX hl h)
theorem sc__law_source_of : FnScope ["_law_cell"] ["_law_cell"] (defScope s__law_source_of) := ⟨rfl, rfl, rfl, by decide +kernel, rfl, by decide +kernel, by decide +kernel⟩
theorem ok__law_source_of_raw (T : Txt K mg) : DOk P wd K mg base 1 T._law_source_of (F_source_raw) :=
  fun_d (w := w__law_source_of) T._law_source_of.F sc__law_source_of (fun cdv A outer s H E hr =>
    (sds_one (sd_ret (pd_lst (ad_cons (pd_op op_times bin_times (pd_var 0) (pd_callTy call_int1 call_intD rfl T.int (by decide +kernel) (ad_cons (pd_cmp op_ge bin_B (pd_var 0) (pd_op op_pow bin_I pd_int pd_int)) ad_nil))) (ad_cons (pd_op op_mod bin_I (pd_var 0) pd_int) (ad_cons pd_int ad_nil))))))) (fun ds n R PX hl h => pu__law_source_of ds n R PX hl h)
theorem ok__law_source_of (T : Txt K mg) : DOk P wd K mg base 1 T._law_source_of (F__law_source_of) := src_imp (ok__law_source_of_raw T) src_of_imp
theorem sc__law_next : FnScope ["_law_source", "_law_many", "_law_prime", "_law_figure", "_law_found"] ["_law_source", "_law_many"] (defScope s__law_next) := ⟨rfl, rfl, rfl, by decide +kernel, rfl, by decide +kernel, by decide +kernel⟩
theorem ok__law_next (T : Txt K mg) : DOk P wd K mg base 1 T._law_next (F__law_next) :=
  fun_d (w := w__law_next) T._law_next.F sc__law_next (fun cdv A outer s H E hr =>
    (sds_cons (sd_if (td_cmp op_gt bin_B (pd_src (c := 0) (by decide) (pd_var 0)) pd_int)
      (sds_cons (sd_set (i := 4) sc__law_next.nd rfl (by first | exact Or.inl rfl | exact Or.inr rfl) (pd_op op_mod bin_I (pd_src (c := 0) (by decide) (pd_var 0)) (pd_var 1)))
      (sds_cons (sd_srcPut (c := 0) (ws := 0) (by decide) (pd_op op_fdiv bin_I (pd_src (c := 0) (by decide) (pd_var 0)) (pd_var 1)))
      (sds_one (sd_ret (pd_var 4)))))
      sds_nil)
      (sds_cons (sd_srcPut (c := 2) (ws := 0) (by decide) (pd_op op_plus bin_plus (pd_src (c := 2) (by decide) (pd_var 0)) pd_int))
      (sds_cons (sd_set (i := 2) sc__law_next.nd rfl (by first | exact Or.inl rfl | exact Or.inr rfl) (pd_ix (pd_lst (ad_cons pd_int (ad_cons pd_int (ad_cons pd_int (ad_cons pd_int (ad_cons pd_int (ad_cons pd_int (ad_cons pd_int ad_nil)))))))) (pd_op op_mod bin_I (pd_src (c := 2) (by decide) (pd_var 0)) pd_int)))
      (sds_cons (sd_set (i := 3) sc__law_next.nd rfl (by first | exact Or.inl rfl | exact Or.inr rfl) (pd_op op_mod bin_I (pd_op op_pow bin_I (pd_op op_plus bin_plus (pd_op op_plus bin_plus (pd_src (c := 1) (by decide) (pd_var 0)) (pd_op op_times bin_times pd_int (pd_src (c := 2) (by decide) (pd_var 0)))) pd_int) pd_int) (pd_var 2)))
      (sds_cons (sd_set (i := 3) sc__law_next.nd rfl (by first | exact Or.inl rfl | exact Or.inr rfl) (pd_op op_mod bin_I (pd_op op_times bin_times (pd_op op_plus bin_plus (pd_var 3) (pd_src (c := 2) (by decide) (pd_var 0))) (pd_op op_plus bin_plus (pd_op op_fdiv bin_I (pd_var 3) pd_int) pd_int)) (pd_var 2)))
      (sds_one (sd_ret (pd_op op_mod bin_I (pd_op op_fdiv bin_I (pd_var 3) pd_int) (pd_var 1)))))))))) (fun ds n R PX hl h => pu__law_next ds n R PX hl h)
theorem sc__law_one : FnScope ["_law_source", "_law_some"] ["_law_source", "_law_some"] (defScope s__law_one) := ⟨rfl, rfl, rfl, by decide +kernel, rfl, by decide +kernel, by decide +kernel⟩
theorem ok__law_one (T : Txt K mg) : DOk P wd K mg base 2 T._law_one (F__law_one) :=
  fun_d (w := w__law_one F__law_next) T._law_one.F sc__law_one (fun cdv A outer s H E hr =>
    (sds_one (sd_ret (pd_ix (pd_var 1) (pd_df T._law_next (ok__law_next T) (hr.mono (by omega)) rfl (ad_cons (pd_var 0) (ad_cons (pd_callB call_len call_lenD rfl T.len PySem.boot_len (ad_cons (pd_var 1) ad_nil)) ad_nil))))))) (fun ds n R PX hl h => pu__law_one ds n R PX hl h)
theorem sc__law_word : FnScope ["_law_source", "_law_word_here", "_law_k"] ["_law_source"] (defScope s__law_word) := ⟨rfl, rfl, rfl, by decide +kernel, rfl, by decide +kernel, by decide +kernel⟩
theorem ok__law_word (T : Txt K mg) : DOk P wd K mg base 3 T._law_word (F__law_word) :=
  fun_d (w := w__law_word F__law_next F__law_one) T._law_word.F sc__law_word (fun cdv A outer s H E hr =>
    (sds_cons (sd_if (td_cmp (op_eqAll hr) bin_eq (pd_df T._law_next (ok__law_next T) (hr.mono (by omega)) rfl (ad_cons (pd_var 0) (ad_cons pd_int ad_nil))) pd_int)
      (sds_one (sd_ret (pd_df T._law_one (ok__law_one T) (hr.mono (by omega)) rfl (ad_cons (pd_var 0) (ad_cons (pd_lst (ad_cons (pd_str (q "a") (S_q _).symm (okS_q _)) (ad_cons (pd_str (q "b") (S_q _).symm (okS_q _)) (ad_cons (pd_str (q "ab") (S_q _).symm (okS_q _)) (ad_cons (pd_str (q "stops") (S_q _).symm (okS_q _)) (ad_cons (pd_str (q "parts") (S_q _).symm (okS_q _)) (ad_cons (pd_str (q "zzzzzzzz") (S_q _).symm (okS_q _)) (ad_cons (pd_str (q "picks") (S_q _).symm (okS_q _)) (ad_cons (pd_str (q "wholes") (S_q _).symm (okS_q _)) (ad_cons (pd_str (q "aa") (S_q _).symm (okS_q _)) (ad_cons (pd_str (q "hides") (S_q _).symm (okS_q _)) ad_nil))))))))))) ad_nil)))))
      sds_nil)
      (sds_cons (sd_set (i := 1) sc__law_word.nd rfl (by first | exact Or.inl rfl | exact Or.inr rfl) (pd_str (q "") (S_q _).symm (okS_q _)))
      (sds_cons (sd_for PassesOwn.never rfl (id_range1 rfl T.range (ad_cons (pd_df T._law_one (ok__law_one T) (hr.mono (by omega)) rfl (ad_cons (pd_var 0) (ad_cons (pd_lst (ad_cons pd_int (ad_cons pd_int (ad_cons (pd_df T._law_next (ok__law_next T) (hr.mono (by omega)) rfl (ad_cons (pd_var 0) (ad_cons pd_int ad_nil))) ad_nil)))) ad_nil))) ad_nil)) (gd_name sc__law_word.nd (i := 2) rfl (by first | exact Or.inl rfl | exact Or.inr rfl))
      (sds_one (sd_set (i := 1) sc__law_word.nd rfl (by first | exact Or.inl rfl | exact Or.inr rfl) (pd_op op_plus bin_plus (pd_var 1) (pd_ix (pd_str (q "abcdefghijklmnopqrstuvwxyz") (S_q _).symm (okS_q _)) (pd_df T._law_next (ok__law_next T) (hr.mono (by omega)) rfl (ad_cons (pd_var 0) (ad_cons pd_int ad_nil))))))))
      (sds_one (sd_ret (pd_op op_plus bin_plus (pd_var 1) (pd_df T._law_one (ok__law_one T) (hr.mono (by omega)) rfl (ad_cons (pd_var 0) (ad_cons (pd_lst (ad_cons (pd_str (q "m") (S_q _).symm (okS_q _)) (ad_cons (pd_str (q "x") (S_q _).symm (okS_q _)) (ad_cons (pd_str (q "z") (S_q _).symm (okS_q _)) ad_nil)))) ad_nil)))))))))) (fun ds n R PX hl h => pu__law_word ds n R PX hl h)
theorem sc__law_names_of : FnScope ["_law_source", "_law_some", "_law_found", "_law_k", "_law_name"] ["_law_source"] (defScope s__law_names_of) := ⟨rfl, rfl, rfl, by decide +kernel, rfl, by decide +kernel, by decide +kernel⟩
theorem ok__law_names_of (T : Txt K mg) : DOk P wd K mg base 4 T._law_names_of (F__law_names_of) :=
  fun_d (w := w__law_names_of F__law_word F__law_one) T._law_names_of.F sc__law_names_of (fun cdv A outer s H E hr =>
    (sds_cons (sd_set (i := 1) sc__law_names_of.nd rfl (by first | exact Or.inl rfl | exact Or.inr rfl) (pd_lst (ad_cons (pd_df T._law_word (ok__law_word T) (hr.mono (by omega)) rfl (ad_cons (pd_var 0) ad_nil)) (ad_cons (pd_str (q "stop") (S_q _).symm (okS_q _)) (ad_cons (pd_str (q "c") (S_q _).symm (okS_q _)) (ad_cons (pd_df T._law_word (ok__law_word T) (hr.mono (by omega)) rfl (ad_cons (pd_var 0) ad_nil)) (ad_cons (pd_str (q "pick") (S_q _).symm (okS_q _)) (ad_cons (pd_str (q "left") (S_q _).symm (okS_q _)) (ad_cons (pd_str (q "part") (S_q _).symm (okS_q _)) (ad_cons (pd_str (q "d") (S_q _).symm (okS_q _)) (ad_cons (pd_str (q "e") (S_q _).symm (okS_q _)) (ad_cons (pd_str (q "ff") (S_q _).symm (okS_q _)) ad_nil))))))))))))
      (sds_cons (sd_set (i := 2) sc__law_names_of.nd rfl (by first | exact Or.inl rfl | exact Or.inr rfl) (pd_lst ad_nil))
      (sds_fz 1 (sds_cons (sd_for PassesOwn.never rfl (id_range1 rfl T.range (ad_cons (pd_df T._law_one (ok__law_one T) (hr.mono (by omega)) rfl (ad_cons (pd_var 0) (ad_cons (pd_lst (ad_cons pd_int (ad_cons pd_int (ad_cons pd_int (ad_cons pd_int (ad_cons pd_int (ad_cons pd_int ad_nil))))))) ad_nil))) ad_nil)) (gd_name sc__law_names_of.nd (i := 3) rfl (by first | exact Or.inl rfl | exact Or.inr rfl))
      (sds_cons (sd_set (i := 4) sc__law_names_of.nd rfl (by first | exact Or.inl rfl | exact Or.inr rfl) (pd_df T._law_one (ok__law_one T) (hr.mono (by omega)) rfl (ad_cons (pd_var 0) (ad_cons (pd_var 1) ad_nil))))
      (sds_one (sd_if (td_cmp (op_notInAll hr) bin_notIn (pd_var 4) (pd_var 2))
      (sds_one (sd_app 2 (pd_var 4)))
      sds_nil))))
      (sds_one (sd_ret (pd_callTy call_tuple_of call_tupleD rfl T.tuple (by decide +kernel) (ad_cons (pd_var 2) ad_nil))))))))) (fun ds n R PX hl h => pu__law_names_of ds n R PX hl h)
theorem sc__law_pairs_of : FnScope ["_law_source", "_law_found", "_law_elder"] ["_law_source"] (defScope s__law_pairs_of) := ⟨rfl, rfl, rfl, by decide +kernel, rfl, by decide +kernel, by decide +kernel⟩
theorem ok__law_pairs_of (T : Txt K mg) : DOk P wd K mg base 5 T._law_pairs_of (F__law_pairs_of) :=
  fun_d (w := w__law_pairs_of F__law_names_of F__law_word F__law_one) T._law_pairs_of.F sc__law_pairs_of (fun cdv A outer s H E hr =>
    (sds_cons (sd_set (i := 1) sc__law_pairs_of.nd rfl (by first | exact Or.inl rfl | exact Or.inr rfl) (pd_lst ad_nil))
      (sds_cons (sd_for PassesOwn.never rfl (id_any (pd_df T._law_names_of (ok__law_names_of T) (hr.mono (by omega)) rfl (ad_cons (pd_var 0) ad_nil))) (gd_name sc__law_pairs_of.nd (i := 2) rfl (by first | exact Or.inl rfl | exact Or.inr rfl))
      (sds_one (sd_app 1 (pd_tup (ad_cons (pd_var 2) (ad_cons (pd_df T._law_one (ok__law_one T) (hr.mono (by omega)) rfl (ad_cons (pd_var 0) (ad_cons (pd_lst (ad_cons (pd_df T._law_word (ok__law_word T) (hr.mono (by omega)) rfl (ad_cons (pd_var 0) ad_nil)) (ad_cons (pd_str (q "stop") (S_q _).symm (okS_q _)) (ad_cons (pd_var 2) (ad_cons (pd_str (q "d") (S_q _).symm (okS_q _)) ad_nil))))) ad_nil))) ad_nil))))))
      (sds_one (sd_ret (pd_callTy call_tuple_of call_tupleD rfl T.tuple (by decide +kernel) (ad_cons (pd_var 1) ad_nil))))))) (fun ds n R PX hl h => pu__law_pairs_of ds n R PX hl h)
theorem sc__law_plan : FnScope ["_law_source", "_law_most", "_law_way", "_law_sign", "_law_one_here", "_law_names"] ["_law_source", "_law_most"] (defScope s__law_plan) := ⟨rfl, rfl, rfl, by decide +kernel, rfl, by decide +kernel, by decide +kernel⟩
theorem ok__law_plan (T : Txt K mg) : ∀ k : Nat, DOk P wd K mg base (k + 5) T._law_plan (F__law_plan k)
  | 0 => dok_none (by rintro ds n R PX ⟨m, _, hk, _⟩; omega)
  | k + 1 => by
    have G__law_plan := ok__law_plan T k
    exact fun_d (w := w__law_plan F__law_next F__law_word (F__law_plan k) F__law_names_of F__law_pairs_of F__law_one) T._law_plan.F sc__law_plan (fun cdv A outer s H E hr =>
      (sds_cons (sd_set (i := 2) sc__law_plan.nd rfl (by first | exact Or.inl rfl | exact Or.inr rfl) (pd_df T._law_next (ok__law_next T) (hr.mono (by omega)) rfl (ad_cons (pd_var 0) (ad_cons pd_int ad_nil))))
      (sds_cons (sd_if (TW.td (tw_or (td_cmp op_lt bin_B (pd_var 1) pd_int) (tw_or1 (td_cmp op_lt bin_B (pd_var 2) pd_int))))
      (sds_one (sd_ret (pd_ix (pd_lst (ad_cons (pd_tup (ad_cons (pd_str (q "stop") (S_q _).symm (okS_q _)) ad_nil)) (ad_cons (pd_tup (ad_cons (pd_str (q "part") (S_q _).symm (okS_q _)) (ad_cons (pd_df T._law_word (ok__law_word T) (hr.mono (by omega)) rfl (ad_cons (pd_var 0) ad_nil)) ad_nil))) ad_nil))) (pd_callTy call_int1 call_intD rfl T.int (by decide +kernel) (ad_cons (pd_cmp op_gt bin_B (pd_op op_mod bin_I (pd_var 2) pd_int) pd_int) ad_nil)))))
      sds_nil)
      (sds_cons (sd_if (TW.td (tw_or (td_cmp (op_eqAll hr) bin_eq (pd_var 2) pd_int) (tw_or1 (td_cmp (op_eqAll hr) bin_eq (pd_var 2) pd_int))))
      (sds_cons (sd_set (i := 4) sc__law_plan.nd rfl (by first | exact Or.inl rfl | exact Or.inr rfl) (pd_df T._law_plan G__law_plan (hr.mono (by omega)) rfl (ad_cons (pd_var 0) (ad_cons (pd_op op_fdiv bin_I (pd_op op_sub bin_I0 (pd_var 1) pd_int) pd_int) ad_nil))))
      (sds_one (sd_ret (pd_tup (ad_cons (pd_ix (pd_lst (ad_cons (pd_str (q "pick") (S_q _).symm (okS_q _)) (ad_cons (pd_str (q "offer") (S_q _).symm (okS_q _)) ad_nil))) (pd_op op_sub bin_I0 (pd_var 2) pd_int)) (ad_cons (pd_var 4) (ad_cons (pd_df T._law_plan G__law_plan (hr.mono (by omega)) rfl (ad_cons (pd_var 0) (ad_cons (pd_op op_fdiv bin_I (pd_op op_sub bin_I0 (pd_var 1) pd_int) pd_int) ad_nil))) ad_nil)))))))
      sds_nil)
      (sds_cons (sd_if (td_cmp (op_eqAll hr) bin_eq (pd_var 2) pd_int)
      (sds_cons (sd_set (i := 5) sc__law_plan.nd rfl (by first | exact Or.inl rfl | exact Or.inr rfl) (pd_df T._law_names_of (ok__law_names_of T) (hr.mono (by omega)) rfl (ad_cons (pd_var 0) ad_nil)))
      (sds_cons (sd_set (i := 4) sc__law_plan.nd rfl (by first | exact Or.inl rfl | exact Or.inr rfl) (pd_df T._law_plan G__law_plan (hr.mono (by omega)) rfl (ad_cons (pd_var 0) (ad_cons (pd_op op_fdiv bin_I (pd_op op_sub bin_I0 (pd_var 1) pd_int) pd_int) ad_nil))))
      (sds_one (sd_ret (pd_tup (ad_cons (pd_str (q "beside") (S_q _).symm (okS_q _)) (ad_cons (pd_var 5) (ad_cons (pd_var 4) (ad_cons (pd_df T._law_plan G__law_plan (hr.mono (by omega)) rfl (ad_cons (pd_var 0) (ad_cons (pd_op op_fdiv bin_I (pd_op op_sub bin_I0 (pd_var 1) pd_int) pd_int) ad_nil))) ad_nil)))))))))
      sds_nil)
      (sds_cons (sd_if (td_cmp (op_eqAll hr) bin_eq (pd_var 2) pd_int)
      (sds_one (sd_ret (pd_tup (ad_cons (pd_str (q "hide") (S_q _).symm (okS_q _)) (ad_cons (pd_df T._law_names_of (ok__law_names_of T) (hr.mono (by omega)) rfl (ad_cons (pd_var 0) ad_nil)) (ad_cons (pd_df T._law_plan G__law_plan (hr.mono (by omega)) rfl (ad_cons (pd_var 0) (ad_cons (pd_op op_sub bin_I0 (pd_var 1) pd_int) ad_nil))) ad_nil))))))
      sds_nil)
      (sds_cons (sd_if (td_cmp (op_eqAll hr) bin_eq (pd_var 2) pd_int)
      (sds_one (sd_ret (pd_tup (ad_cons (pd_str (q "rename") (S_q _).symm (okS_q _)) (ad_cons (pd_df T._law_pairs_of (ok__law_pairs_of T) (hr.mono (by omega)) rfl (ad_cons (pd_var 0) ad_nil)) (ad_cons (pd_df T._law_plan G__law_plan (hr.mono (by omega)) rfl (ad_cons (pd_var 0) (ad_cons (pd_op op_sub bin_I0 (pd_var 1) pd_int) ad_nil))) ad_nil))))))
      sds_nil)
      (sds_cons (sd_set (i := 3) sc__law_plan.nd rfl (by first | exact Or.inl rfl | exact Or.inr rfl) (pd_df T._law_one (ok__law_one T) (hr.mono (by omega)) rfl (ad_cons (pd_var 0) (ad_cons (pd_lst (ad_cons (pd_str (q ".") (S_q _).symm (okS_q _)) (ad_cons (pd_df T._law_word (ok__law_word T) (hr.mono (by omega)) rfl (ad_cons (pd_var 0) ad_nil)) (ad_cons (pd_str (q "stop") (S_q _).symm (okS_q _)) (ad_cons (pd_str (q "a") (S_q _).symm (okS_q _)) ad_nil))))) ad_nil))))
      (sds_one (sd_ret (pd_tup (ad_cons (pd_str (q "ahead") (S_q _).symm (okS_q _)) (ad_cons (pd_var 3) (ad_cons (pd_df T._law_plan G__law_plan (hr.mono (by omega)) rfl (ad_cons (pd_var 0) (ad_cons (pd_op op_sub bin_I0 (pd_var 1) pd_int) ad_nil))) ad_nil)))))))))))))) (fun ds n R PX hl h => pu__law_plan k ds n R PX hl h)
theorem sc__law_words_of : FnScope ["_law_plan_here", "_law_found", "_law_rest", "_law_one_here", "_law_said", "_law_elder", "_law_newer"] ["_law_plan_here"] (defScope s__law_words_of) := ⟨rfl, rfl, rfl, by decide +kernel, rfl, by decide +kernel, by decide +kernel⟩
theorem ok__law_words_of (T : Txt K mg) : ∀ k : Nat, DOk P wd K mg base (k + 1) T._law_words_of (F_words_of k)
  | 0 => dok_none (by rintro ds n R PX ⟨p, rfl, hp, hd, _⟩; have := deep_pos p; omega)
  | k + 1 => by
    have G__law_words_of := ok__law_words_of T k
    exact fun_d (w := w__law_words_of (F_words_of k)) T._law_words_of.F sc__law_words_of (fun cdv A outer s H E hr =>
      (sds_cons (sd_if (td_cmp (op_eqAll hr) bin_eq (pd_ix (pd_var 0) pd_int) (pd_str (q "part") (S_q _).symm (okS_q _)))
      (sds_one (sd_ret (pd_lst (ad_cons (pd_ix (pd_var 0) pd_int) ad_nil))))
      sds_nil)
      (sds_cons (sd_set (i := 1) sc__law_words_of.nd rfl (by first | exact Or.inl rfl | exact Or.inr rfl) (pd_lst (ad_cons (pd_ix (pd_var 0) pd_int) ad_nil)))
      (sds_cons (sd_set (i := 2) sc__law_words_of.nd rfl (by first | exact Or.inl rfl | exact Or.inr rfl) (pd_callTy call_list_of call_listD rfl T.list (by decide +kernel) (ad_cons (pd_slice (pd_var 0) (od_some pd_int) od_none) ad_nil)))
      (sds_cons (sd_if (td_cmp (op_inAll hr) bin_in (pd_ix (pd_var 0) pd_int) (pd_tup (ad_cons (pd_str (q "ahead") (S_q _).symm (okS_q _)) (ad_cons (pd_str (q "beside") (S_q _).symm (okS_q _)) (ad_cons (pd_str (q "hide") (S_q _).symm (okS_q _)) (ad_cons (pd_str (q "rename") (S_q _).symm (okS_q _)) ad_nil))))))
      (sds_cons (sd_setPop 2 (j := 4) sc__law_words_of.nd rfl (by first | exact Or.inl rfl | exact Or.inr rfl) pd_int)
      (sds_cons (sd_if (td_cmp (op_eqAll hr) bin_eq (pd_ix (pd_var 0) pd_int) (pd_str (q "rename") (S_q _).symm (okS_q _)))
      (sds_one (sd_setLc (i := 4) rfl sc__law_words_of.nd rfl rfl rfl (id_any (pd_var 4)) (blkOk_by (own := [("_law_elder", 5), ("_law_newer", 6)]) (by show blkC ["_law_plan_here", "_law_found", "_law_rest", "_law_one_here", "_law_said", "_law_elder", "_law_newer"] (defScope s__law_words_of) _ _ = true; decide +kernel)) (fun _ _ _ _ _ => (gd_tup rfl (gds_cons (gd_name sc__law_words_of.nd (i := 5) rfl (by first | exact Or.inl rfl | exact Or.inr rfl)) (gds_cons (gd_name sc__law_words_of.nd (i := 6) rfl (by first | exact Or.inl rfl | exact Or.inr rfl)) gds_nil)))) (fun _ _ _ _ _ => ptd_nil) (fun _ _ _ _ _ => (pd_op op_plus bin_plus (pd_op op_plus bin_plus (pd_var 5) (pd_str (q ">") (S_q _).symm (okS_q _))) (pd_var 6)))))
      sds_nil)
      (sds_cons (sd_if (td_cmp (op_neAll hr) bin_ne (pd_ix (pd_var 0) pd_int) (pd_str (q "ahead") (S_q _).symm (okS_q _)))
      (sds_one (sd_set (i := 4) sc__law_words_of.nd rfl (by first | exact Or.inl rfl | exact Or.inr rfl) (pd_orA (pd_join (pd_str (q ",") (S_q _).symm (okS_q _)) (pd_callTy call_list_of call_listD rfl T.list (by decide +kernel) (ad_cons (pd_var 4) ad_nil))) (pd_one (pd_str (q "-") (S_q _).symm (okS_q _))))))
      sds_nil)
      (sds_one (sd_app 1 (pd_var 4))))))
      sds_nil)
      (sds_fz 2 (sds_cons (sd_for PassesOwn.never rfl (id_any (pd_var 2)) (gd_name sc__law_words_of.nd (i := 3) rfl (by first | exact Or.inl rfl | exact Or.inr rfl))
      (sds_one (sd_set (i := 1) sc__law_words_of.nd rfl (by first | exact Or.inl rfl | exact Or.inr rfl) (pd_op op_plus bin_plus (pd_var 1) (pd_df T._law_words_of G__law_words_of (hr.mono (by omega)) rfl (ad_cons (pd_var 3) ad_nil))))))
      (sds_one (sd_ret (pd_var 1)))))))))) (fun ds n R PX hl h => pu__law_words_of k ds n R PX hl h)
theorem sc__law_inner : FnScope ["_law_plan_here"] ["_law_plan_here"] (defScope s__law_inner) := ⟨rfl, rfl, rfl, by decide +kernel, rfl, by decide +kernel, by decide +kernel⟩
theorem ok__law_inner (T : Txt K mg) : DOk P wd K mg base 1 T._law_inner (F_plans_in) :=
  fun_d (w := w__law_inner) T._law_inner.F sc__law_inner (fun cdv A outer s H E hr =>
    (sds_cons (sd_if (td_cmp (op_inAll hr) bin_in (pd_ix (pd_var 0) pd_int) (pd_tup (ad_cons (pd_str (q "stop") (S_q _).symm (okS_q _)) (ad_cons (pd_str (q "part") (S_q _).symm (okS_q _)) ad_nil))))
      (sds_one (sd_ret (pd_lst ad_nil)))
      sds_nil)
      (sds_one (sd_ret (pd_callTy call_list_of call_listD rfl T.list (by decide +kernel) (ad_cons (pd_slice (pd_var 0) (od_some (pd_ix (pd_lst (ad_cons pd_int (ad_cons pd_int ad_nil))) (pd_callTy call_int1 call_intD rfl T.int (by decide +kernel) (ad_cons (pd_cmp (op_inAll hr) bin_in (pd_ix (pd_var 0) pd_int) (pd_tup (ad_cons (pd_str (q "pick") (S_q _).symm (okS_q _)) (ad_cons (pd_str (q "offer") (S_q _).symm (okS_q _)) ad_nil)))) ad_nil)))) od_none) ad_nil)))))) (fun ds n R PX hl h => pu__law_inner ds n R PX hl h)
theorem sc__law_named : FnScope ["_law_plan_here", "_law_found", "_law_one_here"] ["_law_plan_here"] (defScope s__law_named) := ⟨rfl, rfl, rfl, by decide +kernel, rfl, by decide +kernel, by decide +kernel⟩
theorem ok__law_named (T : Txt K mg) : ∀ k : Nat, DOk P wd K mg base (k + 1) T._law_named (F_parts_from_left k)
  | 0 => dok_none (by rintro ds n R PX ⟨p, rfl, hp, hd, _⟩; have := deep_pos p; omega)
  | k + 1 => by
    have G__law_named := ok__law_named T k
    exact fun_d (w := w__law_named F_plans_in (F_parts_from_left k)) T._law_named.F sc__law_named (fun cdv A outer s H E hr =>
      (sds_cons (sd_if (td_cmp (op_eqAll hr) bin_eq (pd_ix (pd_var 0) pd_int) (pd_str (q "part") (S_q _).symm (okS_q _)))
      (sds_one (sd_ret (pd_lst (ad_cons (pd_ix (pd_var 0) pd_int) ad_nil))))
      sds_nil)
      (sds_cons (sd_set (i := 1) sc__law_named.nd rfl (by first | exact Or.inl rfl | exact Or.inr rfl) (pd_lst ad_nil))
      (sds_cons (sd_for PassesOwn.never rfl (id_any (pd_df T._law_inner (ok__law_inner T) (hr.mono (by omega)) rfl (ad_cons (pd_var 0) ad_nil))) (gd_name sc__law_named.nd (i := 2) rfl (by first | exact Or.inl rfl | exact Or.inr rfl))
      (sds_one (sd_set (i := 1) sc__law_named.nd rfl (by first | exact Or.inl rfl | exact Or.inr rfl) (pd_op op_plus bin_plus (pd_var 1) (pd_df T._law_named G__law_named (hr.mono (by omega)) rfl (ad_cons (pd_var 2) ad_nil))))))
      (sds_one (sd_ret (pd_var 1))))))) (fun ds n R PX hl h => pu__law_named k ds n R PX hl h)
theorem sc__law_tuples : FnScope ["_law_thing", "_law_one_here"] ["_law_thing"] (defScope s__law_tuples) := ⟨rfl, rfl, rfl, by decide +kernel, rfl, by decide +kernel, by decide +kernel⟩
theorem ok__law_tuples (T : Txt K mg) : ∀ k : Nat, DOk P wd K mg base (k + 1) T._law_tuples (F__law_tuples k)
  | 0 => dok_none (by rintro ds n R PX ⟨x, _, hx, _⟩; exact hx)
  | k + 1 => by
    have G__law_tuples := ok__law_tuples T k
    exact fun_d (w := w__law_tuples (F__law_tuples k)) T._law_tuples.F sc__law_tuples (fun cdv A outer s H E hr =>
      (sds_cons (sd_if (td_val (pd_callB call_isi call_isiD rfl T.isinstance (by decide +kernel) (ad_cons (pd_var 0) (ad_cons (pd_bltn (n := "str") rfl T.str (by decide +kernel)) ad_nil))))
      (sds_one (sd_ret pd_bl))
      sds_nil)
      (sds_one (sd_ret (pd_and (pd_callB call_isi call_isiD rfl T.isinstance (by decide +kernel) (ad_cons (pd_var 0) (ad_cons (pd_bltn (n := "tuple") rfl T.tuple (by decide +kernel)) ad_nil))) (pd_one (pd_callB (cr_all rfl) call_allD rfl T.all (by decide +kernel) (ad_cons (pd_lc rfl sc__law_tuples.nd (id_any (pd_var 0)) (blkOk_by (own := [("_law_one_here", 1)]) (by show blkC ["_law_thing", "_law_one_here"] (defScope s__law_tuples) _ _ = true; decide +kernel)) (fun _ _ _ _ _ => (gd_name sc__law_tuples.nd (i := 1) rfl (by first | exact Or.inl rfl | exact Or.inr rfl))) (fun _ _ _ _ _ => ptd_nil) (fun _ _ _ _ _ => (pd_df T._law_tuples G__law_tuples (hr.mono (by omega)) rfl (ad_cons (pd_var 1) ad_nil)))) ad_nil)))))))) (fun ds n R PX hl h => pu__law_tuples k ds n R PX hl h)
theorem sc_law : FnScope ["_law_script", "_law_cell", "_law_source", "_law_plan_here", "_law_text", "_law_turn", "_law_found", "_law_names"] ["_law_script"] (defScope s_law) := ⟨rfl, rfl, rfl, by decide +kernel, rfl, by decide +kernel, by decide +kernel⟩
theorem ok_law (T : Txt K mg) : DOk P wd K mg base 45 T.law_ (F_law) :=
  fun_d (w := w_law F__law_source_of F__law_one (F__law_plan 21) (F_words_of 40) F_show_plan F_read_plan (F__law_tuples 43) F_parts_of (F_parts_from_left 40)) T.law_.F sc_law (fun cdv A outer s H E hr =>
    (sds_cons (sd_for PassesOwn.never rfl (id_any (pd_op op_plus bin_plus (pd_slice (pd_var 0) od_none (od_some pd_int)) (pd_lst (ad_cons pd_int (ad_cons pd_int ad_nil))))) (gd_name sc_law.nd (i := 1) rfl (by first | exact Or.inl rfl | exact Or.inr rfl))
      (sds_cons (sd_set (i := 2) sc_law.nd rfl (by first | exact Or.inl rfl | exact Or.inr rfl) (pd_df T._law_source_of (ok__law_source_of T) (hr.mono (by omega)) rfl (ad_cons (pd_var 1) ad_nil)))
      (sds_cons (sd_set (i := 3) sc_law.nd rfl (by first | exact Or.inl rfl | exact Or.inr rfl) (pd_df T._law_plan (ok__law_plan T 21) (hr.mono (by omega)) rfl (ad_cons (pd_var 2) (ad_cons (pd_df T._law_one (ok__law_one T) (hr.mono (by omega)) rfl (ad_cons (pd_var 2) (ad_cons (pd_lst (ad_cons pd_int (ad_cons pd_int (ad_cons pd_int (ad_cons pd_int ad_nil))))) ad_nil))) ad_nil))))
      (sds_cons (sd_set (i := 4) sc_law.nd rfl (by first | exact Or.inl rfl | exact Or.inr rfl) (pd_join (pd_str (q " ") (S_q _).symm (okS_q _)) (pd_df T._law_words_of (ok__law_words_of T 40) (hr.mono (by omega)) rfl (ad_cons (pd_var 3) ad_nil))))
      (sds_one (sd_for PassesOwn.never rfl (id_range1 rfl T.range (ad_cons pd_int ad_nil)) (gd_name sc_law.nd (i := 5) rfl (by first | exact Or.inl rfl | exact Or.inr rfl))
      (sds_cons (sd_if (td_cmp (op_neAll hr) bin_ne (pd_df T.show_plan (ok_show_plan T) (hr.mono (by omega)) rfl (ad_cons (pd_var 3) ad_nil)) (pd_var 4))
      (sds_one (sd_ret pd_bl))
      sds_nil)
      (sds_cons (sd_set (i := 6) sc_law.nd rfl (by first | exact Or.inl rfl | exact Or.inr rfl) (pd_df T.read_plan (ok_read_plan T) (hr.mono (by omega)) rfl (ad_cons (pd_var 4) ad_nil)))
      (sds_cons (sd_if (TW.td (tw_or (td_cmp (op_neAll hr) bin_ne (pd_var 6) (pd_var 3)) (tw_or (td_not (td_val (pd_df T._law_tuples (ok__law_tuples T 43) (hr.mono (by omega)) rfl (ad_cons (pd_var 6) ad_nil)))) (tw_or1 (td_cmp (op_neAll hr) bin_ne (pd_df T.show_plan (ok_show_plan T) (hr.mono (by omega)) rfl (ad_cons (pd_var 6) ad_nil)) (pd_var 4))))))
      (sds_one (sd_ret pd_bl))
      sds_nil)
      (sds_cons (sd_set (i := 7) sc_law.nd rfl (by first | exact Or.inl rfl | exact Or.inr rfl) (pd_df T.parts_of (ok_parts_of T) (hr.mono (by omega)) rfl (ad_cons (pd_var 3) ad_nil)))
      (sds_cons (sd_if (TW.td (tw_or (td_not (td_val (pd_callB call_isi call_isiD rfl T.isinstance (by decide +kernel) (ad_cons (pd_var 7) (ad_cons (pd_bltn (n := "list") rfl T.list (by decide +kernel)) ad_nil))))) (tw_or1 (td_cmp (op_neAll hr) bin_ne (pd_var 7) (pd_sset rfl rfl T.sorted rfl T.set (pd_df T._law_named (ok__law_named T 40) (hr.mono (by omega)) rfl (ad_cons (pd_var 3) ad_nil)))))))
      (sds_one (sd_ret pd_bl))
      sds_nil)
      (sds_one (sd_app 7 (pd_str (q "zz") (S_q _).symm (okS_q _)))))))))))))))
      (sds_one (sd_ret pd_bl)))) (fun ds n R PX hl h => pu_law ds n R PX hl h)
end
def all_txt {K : PySem.W.Frag} {h : Heap} {mg : PySem.Str → Option Value} {C : Addr} {f1 : Addr} {od1 an1 : Option Addr} {sl1 : Array (Option Value)} {oc1 kV1 dc1 pm1 cd1 ct1 : Value} {f2 : Addr} {od2 an2 : Option Addr} {sl2 : Array (Option Value)} {oc2 kV2 dc2 pm2 cd2 ct2 : Value} {f3 : Addr} {od3 an3 : Option Addr} {sl3 : Array (Option Value)} {oc3 kV3 dc3 pm3 cd3 ct3 : Value} {f4 : Addr} {od4 an4 : Option Addr} {sl4 : Array (Option Value)} {oc4 kV4 dc4 pm4 cd4 ct4 : Value} {f5 : Addr} {od5 an5 : Option Addr} {sl5 : Array (Option Value)} {oc5 kV5 dc5 pm5 cd5 ct5 : Value} {f6 : Addr} {od6 an6 : Option Addr} {sl6 : Array (Option Value)} {oc6 kV6 dc6 pm6 cd6 ct6 : Value} {f7 : Addr} {od7 an7 : Option Addr} {sl7 : Array (Option Value)} {oc7 kV7 dc7 pm7 cd7 ct7 : Value} {f8 : Addr} {od8 an8 : Option Addr} {sl8 : Array (Option Value)} {oc8 kV8 dc8 pm8 cd8 ct8 : Value} {f9 : Addr} {od9 an9 : Option Addr} {sl9 : Array (Option Value)} {oc9 kV9 dc9 pm9 cd9 ct9 : Value} {f10 : Addr} {od10 an10 : Option Addr} {sl10 : Array (Option Value)} {oc10 kV10 dc10 pm10 cd10 ct10 : Value} {f11 : Addr} {od11 an11 : Option Addr} {sl11 : Array (Option Value)} {oc11 kV11 dc11 pm11 cd11 ct11 : Value} {f12 : Addr} {od12 an12 : Option Addr} {sl12 : Array (Option Value)} {oc12 kV12 dc12 pm12 cd12 ct12 : Value} {f13 : Addr} {od13 an13 : Option Addr} {sl13 : Array (Option Value)} {oc13 kV13 dc13 pm13 cd13 ct13 : Value} {f14 : Addr} {od14 an14 : Option Addr} {sl14 : Array (Option Value)} {oc14 kV14 dc14 pm14 cd14 ct14 : Value} {f15 : Addr} {od15 an15 : Option Addr} {sl15 : Array (Option Value)} {oc15 kV15 dc15 pm15 cd15 ct15 : Value} {f16 : Addr} {od16 an16 : Option Addr} {sl16 : Array (Option Value)} {oc16 kV16 dc16 pm16 cd16 ct16 : Value} {f17 : Addr} {od17 an17 : Option Addr} {sl17 : Array (Option Value)} {oc17 kV17 dc17 pm17 cd17 ct17 : Value} {f18 : Addr} {od18 an18 : Option Addr} {sl18 : Array (Option Value)} {oc18 kV18 dc18 pm18 cd18 ct18 : Value} {f19 : Addr} {od19 an19 : Option Addr} {sl19 : Array (Option Value)} {oc19 kV19 dc19 pm19 cd19 ct19 : Value} {f20 : Addr} {od20 an20 : Option Addr} {sl20 : Array (Option Value)} {oc20 kV20 dc20 pm20 cd20 ct20 : Value} {f21 : Addr} {od21 an21 : Option Addr} {sl21 : Array (Option Value)} {oc21 kV21 dc21 pm21 cd21 ct21 : Value} {f22 : Addr} {od22 an22 : Option Addr} {sl22 : Array (Option Value)} {oc22 kV22 dc22 pm22 cd22 ct22 : Value} {f23 : Addr} {od23 an23 : Option Addr} {sl23 : Array (Option Value)} {oc23 kV23 dc23 pm23 cd23 ct23 : Value} {f24 : Addr} {od24 an24 : Option Addr} {sl24 : Array (Option Value)} {oc24 kV24 dc24 pm24 cd24 ct24 : Value} {f25 : Addr} {od25 an25 : Option Addr} {sl25 : Array (Option Value)} {oc25 kV25 dc25 pm25 cd25 ct25 : Value} {f26 : Addr} {od26 an26 : Option Addr} {sl26 : Array (Option Value)} {oc26 kV26 dc26 pm26 cd26 ct26 : Value} {f27 : Addr} {od27 an27 : Option Addr} {sl27 : Array (Option Value)} {oc27 kV27 dc27 pm27 cd27 ct27 : Value} {f28 : Addr} {od28 an28 : Option Addr} {sl28 : Array (Option Value)} {oc28 kV28 dc28 pm28 cd28 ct28 : Value} {f29 : Addr} {od29 an29 : Option Addr} {sl29 : Array (Option Value)} {oc29 kV29 dc29 pm29 cd29 ct29 : Value} {tk0 : Tok} {tk1 : Tok} {tk2 : Tok} {ca3 : Addr} {cod3 : Option Addr} {cits3 : Array Value} {cn3 : Nat} {csl3 : Array (Option Value)} {ca4 : Addr} {cod4 : Option Addr} {cits4 : Array Value} {cn4 : Nat} {csl4 : Array (Option Value)} {tk5 : Tok} {tk6 : Tok} (X : K.In h) (G : h.Ns mainGlobals mg)
    (aC : PySem.W.nsIn K mainGlobals "PlanWords" = some (some (.ref C)))
    (a1 : PySem.W.nsIn K mainGlobals "is_name" = some (some (.ref f1)))
    (l1 : K.lookup f1 = some ⟨oc1, od1, .func (PySem.W.fnOf "is_name" "is_name" (defArgs s_is_name) (defBody s_is_name) (defScope s_is_name) .none kV1 dc1 pm1 an1 cd1 ct1), sl1⟩)
    (c1 : PySem.W.codeIn K cd1 "is_name" = true)
    (k1 : PySem.W.keepIn K (.ref f1) = true)
    (a2 : PySem.W.nsIn K mainGlobals "is_sign" = some (some (.ref f2)))
    (l2 : K.lookup f2 = some ⟨oc2, od2, .func (PySem.W.fnOf "is_sign" "is_sign" (defArgs s_is_sign) (defBody s_is_sign) (defScope s_is_sign) .none kV2 dc2 pm2 an2 cd2 ct2), sl2⟩)
    (c2 : PySem.W.codeIn K cd2 "is_sign" = true)
    (k2 : PySem.W.keepIn K (.ref f2) = true)
    (a3 : PySem.W.nsIn K mainGlobals "is_part_name" = some (some (.ref f3)))
    (l3 : K.lookup f3 = some ⟨oc3, od3, .func (PySem.W.fnOf "is_part_name" "is_part_name" (defArgs s_is_part_name) (defBody s_is_part_name) (defScope s_is_part_name) .none kV3 dc3 pm3 an3 cd3 ct3), sl3⟩)
    (c3 : PySem.W.codeIn K cd3 "is_part_name" = true)
    (k3 : PySem.W.keepIn K (.ref f3) = true)
    (a4 : PySem.W.nsIn K mainGlobals "plans_in" = some (some (.ref f4)))
    (l4 : K.lookup f4 = some ⟨oc4, od4, .func (PySem.W.fnOf "plans_in" "plans_in" (defArgs s_plans_in) (defBody s_plans_in) (defScope s_plans_in) .none kV4 dc4 pm4 an4 cd4 ct4), sl4⟩)
    (c4 : PySem.W.codeIn K cd4 "plans_in" = true)
    (k4 : PySem.W.keepIn K (.ref f4) = true)
    (a5 : PySem.W.nsIn K mainGlobals "names_text" = some (some (.ref f5)))
    (l5 : K.lookup f5 = some ⟨oc5, od5, .func (PySem.W.fnOf "names_text" "names_text" (defArgs s_names_text) (defBody s_names_text) (defScope s_names_text) .none kV5 dc5 pm5 an5 cd5 ct5), sl5⟩)
    (c5 : PySem.W.codeIn K cd5 "names_text" = true)
    (k5 : PySem.W.keepIn K (.ref f5) = true)
    (a6 : PySem.W.nsIn K mainGlobals "words_of" = some (some (.ref f6)))
    (l6 : K.lookup f6 = some ⟨oc6, od6, .func (PySem.W.fnOf "words_of" "words_of" (defArgs s_words_of) (defBody s_words_of) (defScope s_words_of) .none kV6 dc6 pm6 an6 cd6 ct6), sl6⟩)
    (c6 : PySem.W.codeIn K cd6 "words_of" = true)
    (k6 : PySem.W.keepIn K (.ref f6) = true)
    (a7 : PySem.W.nsIn K mainGlobals "show_plan" = some (some (.ref f7)))
    (l7 : K.lookup f7 = some ⟨oc7, od7, .func (PySem.W.fnOf "show_plan" "show_plan" (defArgs s_show_plan) (defBody s_show_plan) (defScope s_show_plan) .none kV7 dc7 pm7 an7 cd7 ct7), sl7⟩)
    (c7 : PySem.W.codeIn K cd7 "show_plan" = true)
    (k7 : PySem.W.keepIn K (.ref f7) = true)
    (a8 : PySem.W.nsIn K mainGlobals "names_in" = some (some (.ref f8)))
    (l8 : K.lookup f8 = some ⟨oc8, od8, .func (PySem.W.fnOf "names_in" "names_in" (defArgs s_names_in) (defBody s_names_in) (defScope s_names_in) .none kV8 dc8 pm8 an8 cd8 ct8), sl8⟩)
    (c8 : PySem.W.codeIn K cd8 "names_in" = true)
    (k8 : PySem.W.keepIn K (.ref f8) = true)
    (a9 : PySem.W.nsIn K mainGlobals "pairs_in" = some (some (.ref f9)))
    (l9 : K.lookup f9 = some ⟨oc9, od9, .func (PySem.W.fnOf "pairs_in" "pairs_in" (defArgs s_pairs_in) (defBody s_pairs_in) (defScope s_pairs_in) .none kV9 dc9 pm9 an9 cd9 ct9), sl9⟩)
    (c9 : PySem.W.codeIn K cd9 "pairs_in" = true)
    (k9 : PySem.W.keepIn K (.ref f9) = true)
    (a10 : PySem.W.findIn K (.ref C) "__init__" = some (some (.ref f10)))
    (i10 : PySem.W.isFn K (.ref f10) = true)
    (l10 : K.lookup f10 = some ⟨oc10, od10, .func (PySem.W.fnOf "__init__" "PlanWords.__init__" (defArgs s_PlanWords___init__) (defBody s_PlanWords___init__) (defScope s_PlanWords___init__) .none kV10 dc10 pm10 an10 cd10 ct10), sl10⟩)
    (c10 : PySem.W.codeIn K cd10 "PlanWords.__init__" = true)
    (k10 : PySem.W.keepIn K (.ref f10) = true)
    (kC : PySem.W.keepIn K (.ref C) = true)
    (mC : PySem.W.makesIn K C = true)
    (pg : PySem.W.plainGet K C Str.empty = true)
    (hdC : PySem.W.hasDictIn K C = true)
    (poC : PySem.W.plainOver K C = true)
    (saC : PySem.W.findIn K (.ref C) "__setattr__" = some (some (.builtin "object.__setattr__")))
    (nW : PySem.W.findIn K (.ref C) "words" = some none)
    (nP : PySem.W.findIn K (.ref C) "place" = some none)
    (a11 : PySem.W.findIn K (.ref C) "word" = some (some (.ref f11)))
    (i11 : PySem.W.isFn K (.ref f11) = true)
    (l11 : K.lookup f11 = some ⟨oc11, od11, .func (PySem.W.fnOf "word" "PlanWords.word" (defArgs s_PlanWords_word) (defBody s_PlanWords_word) (defScope s_PlanWords_word) .none kV11 dc11 pm11 an11 cd11 ct11), sl11⟩)
    (c11 : PySem.W.codeIn K cd11 "PlanWords.word" = true)
    (k11 : PySem.W.keepIn K (.ref f11) = true)
    (a12 : PySem.W.findIn K (.ref C) "sure" = some (some (.ref f12)))
    (i12 : PySem.W.isFn K (.ref f12) = true)
    (l12 : K.lookup f12 = some ⟨oc12, od12, .func (PySem.W.fnOf "sure" "PlanWords.sure" (defArgs s_PlanWords_sure) (defBody s_PlanWords_sure) (defScope s_PlanWords_sure) .none kV12 dc12 pm12 an12 cd12 ct12), sl12⟩)
    (c12 : PySem.W.codeIn K cd12 "PlanWords.sure" = true)
    (k12 : PySem.W.keepIn K (.ref f12) = true)
    (a13 : PySem.W.findIn K (.ref C) "plan_in" = some (some (.ref f13)))
    (i13 : PySem.W.isFn K (.ref f13) = true)
    (l13 : K.lookup f13 = some ⟨oc13, od13, .func (PySem.W.fnOf "plan_in" "PlanWords.plan_in" (defArgs s_PlanWords_plan_in) (defBody s_PlanWords_plan_in) (defScope s_PlanWords_plan_in) .none kV13 dc13 pm13 an13 cd13 ct13), sl13⟩)
    (c13 : PySem.W.codeIn K cd13 "PlanWords.plan_in" = true)
    (k13 : PySem.W.keepIn K (.ref f13) = true)
    (a14 : PySem.W.findIn K (.ref C) "ended" = some (some (.ref f14)))
    (i14 : PySem.W.isFn K (.ref f14) = true)
    (l14 : K.lookup f14 = some ⟨oc14, od14, .func (PySem.W.fnOf "ended" "PlanWords.ended" (defArgs s_PlanWords_ended) (defBody s_PlanWords_ended) (defScope s_PlanWords_ended) .none kV14 dc14 pm14 an14 cd14 ct14), sl14⟩)
    (c14 : PySem.W.codeIn K cd14 "PlanWords.ended" = true)
    (k14 : PySem.W.keepIn K (.ref f14) = true)
    (a15 : PySem.W.nsIn K mainGlobals "read_plan" = some (some (.ref f15)))
    (l15 : K.lookup f15 = some ⟨oc15, od15, .func (PySem.W.fnOf "read_plan" "read_plan" (defArgs s_read_plan) (defBody s_read_plan) (defScope s_read_plan) .none kV15 dc15 pm15 an15 cd15 ct15), sl15⟩)
    (c15 : PySem.W.codeIn K cd15 "read_plan" = true)
    (k15 : PySem.W.keepIn K (.ref f15) = true)
    (a16 : PySem.W.nsIn K mainGlobals "parts_from_left" = some (some (.ref f16)))
    (l16 : K.lookup f16 = some ⟨oc16, od16, .func (PySem.W.fnOf "parts_from_left" "parts_from_left" (defArgs s_parts_from_left) (defBody s_parts_from_left) (defScope s_parts_from_left) .none kV16 dc16 pm16 an16 cd16 ct16), sl16⟩)
    (c16 : PySem.W.codeIn K cd16 "parts_from_left" = true)
    (k16 : PySem.W.keepIn K (.ref f16) = true)
    (a17 : PySem.W.nsIn K mainGlobals "parts_of" = some (some (.ref f17)))
    (l17 : K.lookup f17 = some ⟨oc17, od17, .func (PySem.W.fnOf "parts_of" "parts_of" (defArgs s_parts_of) (defBody s_parts_of) (defScope s_parts_of) .none kV17 dc17 pm17 an17 cd17 ct17), sl17⟩)
    (c17 : PySem.W.codeIn K cd17 "parts_of" = true)
    (k17 : PySem.W.keepIn K (.ref f17) = true)
    (a18 : PySem.W.nsIn K mainGlobals "_law_source_of" = some (some (.ref f18)))
    (l18 : K.lookup f18 = some ⟨oc18, od18, .func (PySem.W.fnOf "_law_source_of" "_law_source_of" (defArgs s__law_source_of) (defBody s__law_source_of) (defScope s__law_source_of) .none kV18 dc18 pm18 an18 cd18 ct18), sl18⟩)
    (c18 : PySem.W.codeIn K cd18 "_law_source_of" = true)
    (k18 : PySem.W.keepIn K (.ref f18) = true)
    (a19 : PySem.W.nsIn K mainGlobals "_law_next" = some (some (.ref f19)))
    (l19 : K.lookup f19 = some ⟨oc19, od19, .func (PySem.W.fnOf "_law_next" "_law_next" (defArgs s__law_next) (defBody s__law_next) (defScope s__law_next) .none kV19 dc19 pm19 an19 cd19 ct19), sl19⟩)
    (c19 : PySem.W.codeIn K cd19 "_law_next" = true)
    (k19 : PySem.W.keepIn K (.ref f19) = true)
    (a20 : PySem.W.nsIn K mainGlobals "_law_one" = some (some (.ref f20)))
    (l20 : K.lookup f20 = some ⟨oc20, od20, .func (PySem.W.fnOf "_law_one" "_law_one" (defArgs s__law_one) (defBody s__law_one) (defScope s__law_one) .none kV20 dc20 pm20 an20 cd20 ct20), sl20⟩)
    (c20 : PySem.W.codeIn K cd20 "_law_one" = true)
    (k20 : PySem.W.keepIn K (.ref f20) = true)
    (a21 : PySem.W.nsIn K mainGlobals "_law_word" = some (some (.ref f21)))
    (l21 : K.lookup f21 = some ⟨oc21, od21, .func (PySem.W.fnOf "_law_word" "_law_word" (defArgs s__law_word) (defBody s__law_word) (defScope s__law_word) .none kV21 dc21 pm21 an21 cd21 ct21), sl21⟩)
    (c21 : PySem.W.codeIn K cd21 "_law_word" = true)
    (k21 : PySem.W.keepIn K (.ref f21) = true)
    (a22 : PySem.W.nsIn K mainGlobals "_law_names_of" = some (some (.ref f22)))
    (l22 : K.lookup f22 = some ⟨oc22, od22, .func (PySem.W.fnOf "_law_names_of" "_law_names_of" (defArgs s__law_names_of) (defBody s__law_names_of) (defScope s__law_names_of) .none kV22 dc22 pm22 an22 cd22 ct22), sl22⟩)
    (c22 : PySem.W.codeIn K cd22 "_law_names_of" = true)
    (k22 : PySem.W.keepIn K (.ref f22) = true)
    (a23 : PySem.W.nsIn K mainGlobals "_law_pairs_of" = some (some (.ref f23)))
    (l23 : K.lookup f23 = some ⟨oc23, od23, .func (PySem.W.fnOf "_law_pairs_of" "_law_pairs_of" (defArgs s__law_pairs_of) (defBody s__law_pairs_of) (defScope s__law_pairs_of) .none kV23 dc23 pm23 an23 cd23 ct23), sl23⟩)
    (c23 : PySem.W.codeIn K cd23 "_law_pairs_of" = true)
    (k23 : PySem.W.keepIn K (.ref f23) = true)
    (a24 : PySem.W.nsIn K mainGlobals "_law_plan" = some (some (.ref f24)))
    (l24 : K.lookup f24 = some ⟨oc24, od24, .func (PySem.W.fnOf "_law_plan" "_law_plan" (defArgs s__law_plan) (defBody s__law_plan) (defScope s__law_plan) .none kV24 dc24 pm24 an24 cd24 ct24), sl24⟩)
    (c24 : PySem.W.codeIn K cd24 "_law_plan" = true)
    (k24 : PySem.W.keepIn K (.ref f24) = true)
    (a25 : PySem.W.nsIn K mainGlobals "_law_words_of" = some (some (.ref f25)))
    (l25 : K.lookup f25 = some ⟨oc25, od25, .func (PySem.W.fnOf "_law_words_of" "_law_words_of" (defArgs s__law_words_of) (defBody s__law_words_of) (defScope s__law_words_of) .none kV25 dc25 pm25 an25 cd25 ct25), sl25⟩)
    (c25 : PySem.W.codeIn K cd25 "_law_words_of" = true)
    (k25 : PySem.W.keepIn K (.ref f25) = true)
    (a26 : PySem.W.nsIn K mainGlobals "_law_inner" = some (some (.ref f26)))
    (l26 : K.lookup f26 = some ⟨oc26, od26, .func (PySem.W.fnOf "_law_inner" "_law_inner" (defArgs s__law_inner) (defBody s__law_inner) (defScope s__law_inner) .none kV26 dc26 pm26 an26 cd26 ct26), sl26⟩)
    (c26 : PySem.W.codeIn K cd26 "_law_inner" = true)
    (k26 : PySem.W.keepIn K (.ref f26) = true)
    (a27 : PySem.W.nsIn K mainGlobals "_law_named" = some (some (.ref f27)))
    (l27 : K.lookup f27 = some ⟨oc27, od27, .func (PySem.W.fnOf "_law_named" "_law_named" (defArgs s__law_named) (defBody s__law_named) (defScope s__law_named) .none kV27 dc27 pm27 an27 cd27 ct27), sl27⟩)
    (c27 : PySem.W.codeIn K cd27 "_law_named" = true)
    (k27 : PySem.W.keepIn K (.ref f27) = true)
    (a28 : PySem.W.nsIn K mainGlobals "_law_tuples" = some (some (.ref f28)))
    (l28 : K.lookup f28 = some ⟨oc28, od28, .func (PySem.W.fnOf "_law_tuples" "_law_tuples" (defArgs s__law_tuples) (defBody s__law_tuples) (defScope s__law_tuples) .none kV28 dc28 pm28 an28 cd28 ct28), sl28⟩)
    (c28 : PySem.W.codeIn K cd28 "_law_tuples" = true)
    (k28 : PySem.W.keepIn K (.ref f28) = true)
    (a29 : PySem.W.nsIn K mainGlobals "law" = some (some (.ref f29)))
    (l29 : K.lookup f29 = some ⟨oc29, od29, .func (PySem.W.fnOf "law" "law" (defArgs s_law) (defBody s_law) (defScope s_law) .none kV29 dc29 pm29 an29 cd29 ct29), sl29⟩)
    (c29 : PySem.W.codeIn K cd29 "law" = true)
    (k29 : PySem.W.keepIn K (.ref f29) = true)
    (z0 : PySem.W.nsIn K mainGlobals "all" = some none)
    (z1 : PySem.W.nsIn K mainGlobals "isinstance" = some none)
    (z2 : PySem.W.nsIn K mainGlobals "str" = some none)
    (z3 : PySem.W.nsIn K mainGlobals "len" = some none)
    (z4 : PySem.W.nsIn K mainGlobals "list" = some none)
    (z5 : PySem.W.nsIn K mainGlobals "tuple" = some none)
    (z6 : PySem.W.nsIn K mainGlobals "set" = some none)
    (z7 : PySem.W.nsIn K mainGlobals "min" = some none)
    (z8 : PySem.W.nsIn K mainGlobals "sorted" = some none)
    (z9 : PySem.W.nsIn K mainGlobals "int" = some none)
    (z10 : PySem.W.nsIn K mainGlobals "range" = some none)
    (q0 : PySem.W.nsIn K mainGlobals "MOST_LETTERS" = some (some (.int 8 tk0)))
    (q1 : PySem.W.nsIn K mainGlobals "LETTERS" = some (some (.str "abcdefghijklmnopqrstuvwxyz" tk1)))
    (q2 : PySem.W.nsIn K mainGlobals "HUSH" = some (some (.str "." tk2)))
    (q3 : PySem.W.nsIn K mainGlobals "WORDS" = some (some (.ref ca3)))
    (ql3 : K.lookup ca3 = some ⟨.type "tuple", cod3, .seq cits3 cn3, csl3⟩)
    (qr3 : He.relAll ([(q "stop"), (q "part"), (q "ahead"), (q "pick"), (q "offer"), (q "beside"), (q "hide"), (q "rename")].map fun c => V.str (S c)) cits3.toList = true)
    (qz3 : cits3.size ≤ 1000)
    (q4 : PySem.W.nsIn K mainGlobals "TWO" = some (some (.ref ca4)))
    (ql4 : K.lookup ca4 = some ⟨.type "tuple", cod4, .seq cits4 cn4, csl4⟩)
    (qr4 : He.relAll ([(q "pick"), (q "offer")].map fun c => V.str (S c)) cits4.toList = true)
    (qz4 : cits4.size ≤ 1000)
    (q5 : PySem.W.nsIn K mainGlobals "NONE" = some (some (.str "-" tk5)))
    (q6 : PySem.W.nsIn K mainGlobals "MOST_WORDS" = some (some (.int 40 tk6))) : Txt K mg where
  C := C
  is_name := ⟨f1, _, (fun_mk (st := s_is_name) l1 c1 k1), ((fun_mk (st := s_is_name) l1 c1 k1).binds fun _ _ _ _ _ _ us hl => match us, hl with | [_], _ => rfl), PySem.W.mg_of X G a1⟩
  is_sign := ⟨f2, _, (fun_mk (st := s_is_sign) l2 c2 k2), ((fun_mk (st := s_is_sign) l2 c2 k2).binds fun _ _ _ _ _ _ us hl => match us, hl with | [_], _ => rfl), PySem.W.mg_of X G a2⟩
  is_part_name := ⟨f3, _, (fun_mk (st := s_is_part_name) l3 c3 k3), ((fun_mk (st := s_is_part_name) l3 c3 k3).binds fun _ _ _ _ _ _ us hl => match us, hl with | [_], _ => rfl), PySem.W.mg_of X G a3⟩
  plans_in := ⟨f4, _, (fun_mk (st := s_plans_in) l4 c4 k4), ((fun_mk (st := s_plans_in) l4 c4 k4).binds fun _ _ _ _ _ _ us hl => match us, hl with | [_], _ => rfl), PySem.W.mg_of X G a4⟩
  names_text := ⟨f5, _, (fun_mk (st := s_names_text) l5 c5 k5), ((fun_mk (st := s_names_text) l5 c5 k5).binds fun _ _ _ _ _ _ us hl => match us, hl with | [_], _ => rfl), PySem.W.mg_of X G a5⟩
  words_of := ⟨f6, _, (fun_mk (st := s_words_of) l6 c6 k6), ((fun_mk (st := s_words_of) l6 c6 k6).binds fun _ _ _ _ _ _ us hl => match us, hl with | [_], _ => rfl), PySem.W.mg_of X G a6⟩
  show_plan := ⟨f7, _, (fun_mk (st := s_show_plan) l7 c7 k7), ((fun_mk (st := s_show_plan) l7 c7 k7).binds fun _ _ _ _ _ _ us hl => match us, hl with | [_], _ => rfl), PySem.W.mg_of X G a7⟩
  names_in := ⟨f8, _, (fun_mk (st := s_names_in) l8 c8 k8), ((fun_mk (st := s_names_in) l8 c8 k8).binds fun _ _ _ _ _ _ us hl => match us, hl with | [_], _ => rfl), PySem.W.mg_of X G a8⟩
  pairs_in := ⟨f9, _, (fun_mk (st := s_pairs_in) l9 c9 k9), ((fun_mk (st := s_pairs_in) l9 c9 k9).binds fun _ _ _ _ _ _ us hl => match us, hl with | [_], _ => rfl), PySem.W.mg_of X G a9⟩
  pwc := ⟨⟨pg, hdC, poC, saC⟩, nW, nP⟩
  fi := f10
  fdi := _
  pwm := ⟨mC, a10, i10, kC⟩
  pwf := (fun_mk (st := s_PlanWords___init__) l10 c10 k10)
  pwb := ((fun_mk (st := s_PlanWords___init__) l10 c10 k10).binds fun _ _ _ _ _ _ us hl => match us, hl with | [_, _], _ => rfl)
  pwg := PySem.W.mg_of X G aC
  PlanWords_word := ⟨f11, _, (fun_mk (st := s_PlanWords_word) l11 c11 k11), ((fun_mk (st := s_PlanWords_word) l11 c11 k11).binds fun _ _ _ _ _ _ us hl => match us, hl with | [_], _ => rfl), ⟨a11, i11, k11⟩⟩
  PlanWords_sure := ⟨f12, _, (fun_mk (st := s_PlanWords_sure) l12 c12 k12), ((fun_mk (st := s_PlanWords_sure) l12 c12 k12).binds fun _ _ _ _ _ _ us hl => match us, hl with | [_, _], _ => rfl), ⟨a12, i12, k12⟩⟩
  PlanWords_plan_in := ⟨f13, _, (fun_mk (st := s_PlanWords_plan_in) l13 c13 k13), ((fun_mk (st := s_PlanWords_plan_in) l13 c13 k13).binds fun _ _ _ _ _ _ us hl => match us, hl with | [_], _ => rfl), ⟨a13, i13, k13⟩⟩
  PlanWords_ended := ⟨f14, _, (fun_mk (st := s_PlanWords_ended) l14 c14 k14), ((fun_mk (st := s_PlanWords_ended) l14 c14 k14).binds fun _ _ _ _ _ _ us hl => match us, hl with | [_], _ => rfl), ⟨a14, i14, k14⟩⟩
  read_plan := ⟨f15, _, (fun_mk (st := s_read_plan) l15 c15 k15), ((fun_mk (st := s_read_plan) l15 c15 k15).binds fun _ _ _ _ _ _ us hl => match us, hl with | [_], _ => rfl), PySem.W.mg_of X G a15⟩
  parts_from_left := ⟨f16, _, (fun_mk (st := s_parts_from_left) l16 c16 k16), ((fun_mk (st := s_parts_from_left) l16 c16 k16).binds fun _ _ _ _ _ _ us hl => match us, hl with | [_], _ => rfl), PySem.W.mg_of X G a16⟩
  parts_of := ⟨f17, _, (fun_mk (st := s_parts_of) l17 c17 k17), ((fun_mk (st := s_parts_of) l17 c17 k17).binds fun _ _ _ _ _ _ us hl => match us, hl with | [_], _ => rfl), PySem.W.mg_of X G a17⟩
  _law_source_of := ⟨f18, _, (fun_mk (st := s__law_source_of) l18 c18 k18), ((fun_mk (st := s__law_source_of) l18 c18 k18).binds fun _ _ _ _ _ _ us hl => match us, hl with | [_], _ => rfl), PySem.W.mg_of X G a18⟩
  _law_next := ⟨f19, _, (fun_mk (st := s__law_next) l19 c19 k19), ((fun_mk (st := s__law_next) l19 c19 k19).binds fun _ _ _ _ _ _ us hl => match us, hl with | [_, _], _ => rfl), PySem.W.mg_of X G a19⟩
  _law_one := ⟨f20, _, (fun_mk (st := s__law_one) l20 c20 k20), ((fun_mk (st := s__law_one) l20 c20 k20).binds fun _ _ _ _ _ _ us hl => match us, hl with | [_, _], _ => rfl), PySem.W.mg_of X G a20⟩
  _law_word := ⟨f21, _, (fun_mk (st := s__law_word) l21 c21 k21), ((fun_mk (st := s__law_word) l21 c21 k21).binds fun _ _ _ _ _ _ us hl => match us, hl with | [_], _ => rfl), PySem.W.mg_of X G a21⟩
  _law_names_of := ⟨f22, _, (fun_mk (st := s__law_names_of) l22 c22 k22), ((fun_mk (st := s__law_names_of) l22 c22 k22).binds fun _ _ _ _ _ _ us hl => match us, hl with | [_], _ => rfl), PySem.W.mg_of X G a22⟩
  _law_pairs_of := ⟨f23, _, (fun_mk (st := s__law_pairs_of) l23 c23 k23), ((fun_mk (st := s__law_pairs_of) l23 c23 k23).binds fun _ _ _ _ _ _ us hl => match us, hl with | [_], _ => rfl), PySem.W.mg_of X G a23⟩
  _law_plan := ⟨f24, _, (fun_mk (st := s__law_plan) l24 c24 k24), ((fun_mk (st := s__law_plan) l24 c24 k24).binds fun _ _ _ _ _ _ us hl => match us, hl with | [_, _], _ => rfl), PySem.W.mg_of X G a24⟩
  _law_words_of := ⟨f25, _, (fun_mk (st := s__law_words_of) l25 c25 k25), ((fun_mk (st := s__law_words_of) l25 c25 k25).binds fun _ _ _ _ _ _ us hl => match us, hl with | [_], _ => rfl), PySem.W.mg_of X G a25⟩
  _law_inner := ⟨f26, _, (fun_mk (st := s__law_inner) l26 c26 k26), ((fun_mk (st := s__law_inner) l26 c26 k26).binds fun _ _ _ _ _ _ us hl => match us, hl with | [_], _ => rfl), PySem.W.mg_of X G a26⟩
  _law_named := ⟨f27, _, (fun_mk (st := s__law_named) l27 c27 k27), ((fun_mk (st := s__law_named) l27 c27 k27).binds fun _ _ _ _ _ _ us hl => match us, hl with | [_], _ => rfl), PySem.W.mg_of X G a27⟩
  _law_tuples := ⟨f28, _, (fun_mk (st := s__law_tuples) l28 c28 k28), ((fun_mk (st := s__law_tuples) l28 c28 k28).binds fun _ _ _ _ _ _ us hl => match us, hl with | [_], _ => rfl), PySem.W.mg_of X G a28⟩
  law_ := ⟨f29, _, (fun_mk (st := s_law) l29 c29 k29), ((fun_mk (st := s_law) l29 c29 k29).binds fun _ _ _ _ _ _ us hl => match us, hl with | [_], _ => rfl), PySem.W.mg_of X G a29⟩
  all := PySem.W.mg_none_of X G z0
  isinstance := PySem.W.mg_none_of X G z1
  str := PySem.W.mg_none_of X G z2
  len := PySem.W.mg_none_of X G z3
  list := PySem.W.mg_none_of X G z4
  tuple := PySem.W.mg_none_of X G z5
  set := PySem.W.mg_none_of X G z6
  min := PySem.W.mg_none_of X G z7
  sorted := PySem.W.mg_none_of X G z8
  int := PySem.W.mg_none_of X G z9
  range := PySem.W.mg_none_of X G z10
  MOST_LETTERS := ⟨tk0, PySem.W.mg_of X G q0⟩
  LETTERS := ⟨tk1, by rw [S_q]; exact PySem.W.mg_of X G q1⟩
  HUSH := ⟨tk2, by rw [S_q]; exact PySem.W.mg_of X G q2⟩
  WORDS := ⟨ca3, PySem.W.mg_of X G q3, fun H => .inr ⟨_, cits3, cn3, ql3, rfl, rfl, Nat.le_trans qz3 (Nat.le_of_lt (small1000 (Nat.le_refl _))), He.relAll_ok qr3⟩, by decide +kernel⟩
  TWO := ⟨ca4, PySem.W.mg_of X G q4, fun H => .inr ⟨_, cits4, cn4, ql4, rfl, rfl, Nat.le_trans qz4 (Nat.le_of_lt (small1000 (Nat.le_refl _))), He.relAll_ok qr4⟩, by decide +kernel⟩
  NONE := ⟨tk5, by rw [S_q]; exact PySem.W.mg_of X G q5⟩
  MOST_WORDS := ⟨tk6, PySem.W.mg_of X G q6⟩
def spLaw (K : PySem.W.Frag) : Sp := spOf 1 K F_law
theorem all_mk {l : PySem.W.OpenLaw} {w : World} {K : PySem.W.Frag} {h : Heap} {mg : PySem.Str → Option Value} {fa : Addr} (X : K.In h) (G : h.Ns mainGlobals mg) (hfa : mg "law" = some (.ref fa)) (T : Txt K mg) :
    ∃ fd : FuncData, (∀ (s : Shared) (v : Value), BindsTo s fd ⟨[v], []⟩ [("_law_script", v)]) ∧ ∀ base : Heap, K.In base → base.Ns mainGlobals mg → FnOk l.prog w K mg base (L2.CX l.prog w) 45 fa fd ["_law_script"] (spLaw K) := by
  have e := hfa.symm.trans T.law_.m
  cases e
  refine ⟨T.law_.fd, fun s v => ?_, fun base _ _ => ok_law T⟩
  have b := T.law_.b
  obtain ⟨oc, od, kV, doc, pm, an, cdv, ct, osl, e, lk, hcd⟩ := T.law_.F.ex
  rw [e]
  exact .of_eq rfl
theorem sp_law {K : PySem.W.Frag} {H : Hp} {a : Addr} {ns : List Int} (hS : SqL K H a (ns.map V.int)) : spLaw K [.ref a] H (fun v _ => v = .bl true) fun _ _ _ => False := by
  have fin : ∀ K0 : Hp, Kno K0 H ⟨0, 0, 0⟩ → SqL K K0 a (ns.map V.int) → spLaw K [.ref a] H (fun v _ => v = .bl true) fun _ _ _ => False := fun K0 k0 h0 =>
    ⟨rfl, K0, ⟨0, 0, 0⟩, [.frl ns], fun _ r => r = .d (.bl true), PXF0, k0, ⟨_, [], rfl, ⟨a, rfl, h0⟩, rfl⟩, ⟨ns, rfl, by decide, fun _ => rfl⟩, fun n' r v Kn' H' g ne q rp => by subst q; exact rp, fun _ _ _ _ _ _ _ z => z.elim⟩
  rcases hS with (h | ⟨ob, h⟩) | h
  · refine fin (fun b => if b = a then H a else none) (fun b u e => ?_) (.inl (.inl (by show (if a = a then H a else none) = _; rw [if_pos rfl]; exact h)))
    have e : (if b = a then H a else none) = some u := e
    split at e
    · rename_i z; subst z; rw [h] at e; cases e; exact .inr ⟨rfl, h⟩
    · cases e
  · refine fin (fun b => if b = a then H a else none) (fun b u e => ?_) (.inl (.inr ⟨ob, by show (if a = a then H a else none) = _; rw [if_pos rfl]; exact h⟩))
    have e : (if b = a then H a else none) = some u := e
    split at e
    · rename_i z; subst z; rw [h] at e; cases e; exact .inr ⟨rfl, h⟩
    · cases e
  · exact fin (fun _ => none) (fun b u e => by cases e) (.inr h)
theorem walk {l : PySem.W.OpenLaw} {q : Program} {loose : List PySem.Str} {XP : (PySem.Str → Option Value) → Heap → Prop} {YP : World → Heap → Prop} {d : DefRec} {K : Params → PySem.W.Frag} (hn : l.most = some 63) (hdf : d.params.defaults = [])
    (hY : ∀ (w : World) (h : Heap), YP w h → (K w.params).In h)
    (F : ∀ (w : World) (mg : PySem.Str → Option Value) (fa : Addr) (h : Heap), (K w.params).In h → h.Ns mainGlobals mg → mg d.name = some (.ref fa) →
      ∃ fd : FuncData, (∀ (s : Shared) (u : Value), BindsTo s fd ⟨[u], []⟩ [("_law_script", u)]) ∧ ∀ base : Heap, (K w.params).In base → base.Ns mainGlobals mg → FnOk l.prog w (K w.params) mg base (L2.CX l.prog w) 45 fa fd ["_law_script"] (spLaw (K w.params))) :
    PySem.W.WalkO q loose XP YP l.row.toRowW d [] (fun f vs => PySem.call f vs) :=
  L2.walk_of (n := 63) (k := 45) (x := "_law_script") (CX := fun w => L2.CX l.prog w) (sp := fun w => spLaw (K w.params)) hn (by decide) hdf ⟨rfl, by decide, by decide⟩ hY F (fun _ _ a ns hl _ hS => sp_law hS) fun _ _ _ _ _ z => by
    obtain ⟨_, _, _, _, _, _, _, _, _, _, _, _, z⟩ := z
    exact z.elim
end K68
end DL
open PySem PySem.W PyProof.Rows in
set_option maxRecDepth 100000 in
set_option maxHeartbeats 0 in
theorem PySem.Challenge.cw_curtain_k68_plans_as_texts_holds : PySem.Challenge.rw_curtain_k68_plans_as_texts.Holds := by
  w_on; o_law; k_head; (case hw => w_witness2)
  k_fill
  refine DL.K68.walk (l := PySem.Challenge.rw_curtain_k68_plans_as_texts) rfl rfl (fun w h Y => PySem.W.kIn_of Y) ?F
  case F =>
    intro w mg fa h KX G hmg
    refine DL.K68.all_mk KX G hmg ?T
    refine' DL.K68.all_txt KX G ?aC ?a1 ?l1 ?c1 ?k1 ?a2 ?l2 ?c2 ?k2 ?a3 ?l3 ?c3 ?k3 ?a4 ?l4 ?c4 ?k4 ?a5 ?l5 ?c5 ?k5 ?a6 ?l6 ?c6 ?k6 ?a7 ?l7 ?c7 ?k7 ?a8 ?l8 ?c8 ?k8 ?a9 ?l9 ?c9 ?k9 ?a10 ?i10 ?l10 ?c10 ?k10 ?kC ?mC ?pg ?hdC ?poC ?saC ?nW ?nP ?a11 ?i11 ?l11 ?c11 ?k11 ?a12 ?i12 ?l12 ?c12 ?k12 ?a13 ?i13 ?l13 ?c13 ?k13 ?a14 ?i14 ?l14 ?c14 ?k14 ?a15 ?l15 ?c15 ?k15 ?a16 ?l16 ?c16 ?k16 ?a17 ?l17 ?c17 ?k17 ?a18 ?l18 ?c18 ?k18 ?a19 ?l19 ?c19 ?k19 ?a20 ?l20 ?c20 ?k20 ?a21 ?l21 ?c21 ?k21 ?a22 ?l22 ?c22 ?k22 ?a23 ?l23 ?c23 ?k23 ?a24 ?l24 ?c24 ?k24 ?a25 ?l25 ?c25 ?k25 ?a26 ?l26 ?c26 ?k26 ?a27 ?l27 ?c27 ?k27 ?a28 ?l28 ?c28 ?k28 ?a29 ?l29 ?c29 ?k29 ?z0 ?z1 ?z2 ?z3 ?z4 ?z5 ?z6 ?z7 ?z8 ?z9 ?z10 ?q0 ?q1 ?q2 ?q3 ?ql3 ?qr3 ?qz3 ?q4 ?ql4 ?qr4 ?qz4 ?q5 ?q6
    (case aC => k_is)
    (case a1 => k_is)
    (case l1 => k_is)
    (case c1 => k_is)
    (case k1 => k_is)
    (case a2 => k_is)
    (case l2 => k_is)
    (case c2 => k_is)
    (case k2 => k_is)
    (case a3 => k_is)
    (case l3 => k_is)
    (case c3 => k_is)
    (case k3 => k_is)
    (case a4 => k_is)
    (case l4 => k_is)
    (case c4 => k_is)
    (case k4 => k_is)
    (case a5 => k_is)
    (case l5 => k_is)
    (case c5 => k_is)
    (case k5 => k_is)
    (case a6 => k_is)
    (case l6 => k_is)
    (case c6 => k_is)
    (case k6 => k_is)
    (case a7 => k_is)
    (case l7 => k_is)
    (case c7 => k_is)
    (case k7 => k_is)
    (case a8 => k_is)
    (case l8 => k_is)
    (case c8 => k_is)
    (case k8 => k_is)
    (case a9 => k_is)
    (case l9 => k_is)
    (case c9 => k_is)
    (case k9 => k_is)
    (case a10 => k_is)
    (case i10 => k_is)
    (case l10 => k_is)
    (case c10 => k_is)
    (case k10 => k_is)
    (case kC => k_is)
    (case mC => k_is)
    (case pg => k_is)
    (case hdC => k_is)
    (case poC => k_is)
    (case saC => k_is)
    (case nW => k_is)
    (case nP => k_is)
    (case a11 => k_is)
    (case i11 => k_is)
    (case l11 => k_is)
    (case c11 => k_is)
    (case k11 => k_is)
    (case a12 => k_is)
    (case i12 => k_is)
    (case l12 => k_is)
    (case c12 => k_is)
    (case k12 => k_is)
    (case a13 => k_is)
    (case i13 => k_is)
    (case l13 => k_is)
    (case c13 => k_is)
    (case k13 => k_is)
    (case a14 => k_is)
    (case i14 => k_is)
    (case l14 => k_is)
    (case c14 => k_is)
    (case k14 => k_is)
    (case a15 => k_is)
    (case l15 => k_is)
    (case c15 => k_is)
    (case k15 => k_is)
    (case a16 => k_is)
    (case l16 => k_is)
    (case c16 => k_is)
    (case k16 => k_is)
    (case a17 => k_is)
    (case l17 => k_is)
    (case c17 => k_is)
    (case k17 => k_is)
    (case a18 => k_is)
    (case l18 => k_is)
    (case c18 => k_is)
    (case k18 => k_is)
    (case a19 => k_is)
    (case l19 => k_is)
    (case c19 => k_is)
    (case k19 => k_is)
    (case a20 => k_is)
    (case l20 => k_is)
    (case c20 => k_is)
    (case k20 => k_is)
    (case a21 => k_is)
    (case l21 => k_is)
    (case c21 => k_is)
    (case k21 => k_is)
    (case a22 => k_is)
    (case l22 => k_is)
    (case c22 => k_is)
    (case k22 => k_is)
    (case a23 => k_is)
    (case l23 => k_is)
    (case c23 => k_is)
    (case k23 => k_is)
    (case a24 => k_is)
    (case l24 => k_is)
    (case c24 => k_is)
    (case k24 => k_is)
    (case a25 => k_is)
    (case l25 => k_is)
    (case c25 => k_is)
    (case k25 => k_is)
    (case a26 => k_is)
    (case l26 => k_is)
    (case c26 => k_is)
    (case k26 => k_is)
    (case a27 => k_is)
    (case l27 => k_is)
    (case c27 => k_is)
    (case k27 => k_is)
    (case a28 => k_is)
    (case l28 => k_is)
    (case c28 => k_is)
    (case k28 => k_is)
    (case a29 => k_is)
    (case l29 => k_is)
    (case c29 => k_is)
    (case k29 => k_is)
    (case z0 => k_is)
    (case z1 => k_is)
    (case z2 => k_is)
    (case z3 => k_is)
    (case z4 => k_is)
    (case z5 => k_is)
    (case z6 => k_is)
    (case z7 => k_is)
    (case z8 => k_is)
    (case z9 => k_is)
    (case z10 => k_is)
    (case q0 => k_is)
    (case q1 => k_is)
    (case q2 => k_is)
    (case q3 => k_is)
    (case ql3 => k_is)
    (case qr3 => decide +kernel)
    (case qz3 => decide)
    (case q4 => k_is)
    (case ql4 => k_is)
    (case qr4 => decide +kernel)
    (case qz4 => decide)
    (case q5 => k_is)
    (case q6 => k_is)
