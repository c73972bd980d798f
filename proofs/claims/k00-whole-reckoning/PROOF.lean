import PyProof.Rows.All
import Wide.All
import OpenK.AllK
import Wide.FinOn
import PyProof.EqAt
import PyProof.EqKinds
import PyProof.TupleCall
import KE.KStateDown
import HandS.Base
import HandS.Call
import HandS.List
import HandS.Comp
import HandS.Words
import HandS.WordsList
import HandS.TupAny
import HandS.TupMul
import HandS.Wide
import HandS.IsInst
import HandS.Style
import HandS.Dict
import HandS.Iter
import HandS.Zip
import HandS.More
import HandS.TupLe
import HandS.Conv
import HandS.Rev
import PyProof.ListRange
import HandS.Deep
import HandS.Ends
import HandS.WordsExc
import HandS.Defaults
import HandS.Head0
import HandS.Head1
import HandS.Head2
import HandS.HeadEnd
import HandS.HeadHook1
import HandS.HeadHook2
import PySem.Challenge.RW_multipliedout_k00_whole_reckoning
set_option Elab.async false
set_option linter.all false
set_option maxRecDepth 100000
set_option maxHeartbeats 4000000
section
set_option autoImplicit false
/-! Ab: a machine of plain data over the hand layer. Data never change; lists that do are numbered cells. -/
namespace Ab
open PySem PySem.Spec PyProof.Rows L2

inductive D where
  | non | bl (b : Bool) | int (i : Int) | str (s : Str) | tup (ds : List D) | lst (ds : List D) | dct (ks : List Key) (ds : List D)

mutual
inductive Rep (I : Hp) : D → V → Prop
  | non : Rep I .non .non
  | bl (b : Bool) : Rep I (.bl b) (.bl b)
  | int (i : Int) : Rep I (.int i) (.int i)
  | str (s : Str) : Rep I (.str s) (.str s)
  | tup {a : Addr} {xs : List V} {ds : List D} (h : I a = some (.tup xs)) (r : Reps I ds xs) : Rep I (.tup ds) (.ref a)
  | lst {a : Addr} {xs : List V} {ds : List D} (h : I a = some (.lst xs)) (r : Reps I ds xs) : Rep I (.lst ds) (.ref a)
  | dct {a : Addr} {kvs : List (Key × V)} {ds : List D} (h : I a = some (.dK kvs)) (r : Reps I ds (kvs.map (·.2))) : Rep I (.dct (kvs.map (·.1)) ds) (.ref a)
inductive Reps (I : Hp) : List D → List V → Prop
  | nil : Reps I [] []
  | cons {d : D} {ds : List D} {v : V} {vs : List V} (h : Rep I d v) (r : Reps I ds vs) : Reps I (d :: ds) (v :: vs)
end

def Ex (H H' : Hp) : Prop := ∀ a o, H a = some o → H' a = some o
theorem Ex.refl (H : Hp) : Ex H H := fun _ _ h => h
theorem Ex.trans {H H1 H2 : Hp} (a : Ex H H1) (b : Ex H1 H2) : Ex H H2 := fun x o h => b x o (a x o h)
theorem Ex.non {I H : Hp} {p : Addr} (e : Ex I H) (h : H p = none) : I p = none := by
  cases q : I p with
  | none => rfl
  | some o =>
    rw [e p o q] at h
    cases h
theorem Ex.new {H : Hp} {p : Addr} {o : HO} (h : H p = none) : Ex H (upd H p o) := fun a u e => by
  rw [upd_ne (ne_of_none e h)]
  exact e
theorem Ex.mut {I H : Hp} {p : Addr} {o : HO} (e : Ex I H) (h : I p = none) : Ex I (upd H p o) := fun a u ha => by
  rw [upd_ne (ne_of_none ha h)]
  exact e a u ha
theorem Ex.upd {I H : Hp} {p : Addr} {o : HO} (e : Ex I H) : Ex (upd I p o) (upd H p o) := fun a u ha => by
  by_cases h : a = p
  · subst h
    rw [upd_same] at ha ⊢
    exact ha
  · rw [upd_ne h] at ha ⊢
    exact e a u ha

mutual
theorem Rep.mono {I I' : Hp} (e : Ex I I') : ∀ {d : D} {v : V}, Rep I d v → Rep I' d v
  | _, _, .non => .non
  | _, _, .bl b => .bl b
  | _, _, .int i => .int i
  | _, _, .str s => .str s
  | _, _, .tup h r => .tup (e _ _ h) (Reps.mono e r)
  | _, _, .lst h r => .lst (e _ _ h) (Reps.mono e r)
  | _, _, .dct h r => .dct (e _ _ h) (Reps.mono e r)
theorem Reps.mono {I I' : Hp} (e : Ex I I') : ∀ {ds : List D} {vs : List V}, Reps I ds vs → Reps I' ds vs
  | _, _, .nil => .nil
  | _, _, .cons h r => .cons (Rep.mono e h) (Reps.mono e r)
end
theorem Reps.length {I : Hp} : ∀ {ds : List D} {vs : List V}, Reps I ds vs → ds.length = vs.length
  | _, _, .nil => rfl
  | _, _, .cons _ r => by rw [List.length_cons, List.length_cons, Reps.length r]
theorem Reps.get {I : Hp} : ∀ {ds : List D} {vs : List V} {i : Nat} {d : D}, Reps I ds vs → ds[i]? = some d → ∃ v, vs[i]? = some v ∧ Rep I d v
  | _, _, _, _, .nil, e => by simp at e
  | _, _, 0, _, .cons h _, e => by
    simp at e
    subst e
    exact ⟨_, rfl, h⟩
  | _, _, i + 1, _, .cons _ r, e => by
    obtain ⟨v, h1, h2⟩ := Reps.get (i := i) r (by simpa using e)
    exact ⟨v, by simpa using h1, h2⟩
theorem Reps.append {I : Hp} : ∀ {ds es : List D} {vs ws : List V}, Reps I ds vs → Reps I es ws → Reps I (ds ++ es) (vs ++ ws)
  | _, _, _, _, .nil, s => s
  | _, _, _, _, .cons h r, s => .cons h (Reps.append r s)
theorem Reps.take {I : Hp} : ∀ {ds : List D} {vs : List V} (n : Nat), Reps I ds vs → Reps I (ds.take n) (vs.take n)
  | _, _, 0, _ => .nil
  | _, _, _ + 1, .nil => .nil
  | _, _, n + 1, .cons h r => .cons h (Reps.take n r)
theorem Reps.drop {I : Hp} : ∀ {ds : List D} {vs : List V} (n : Nat), Reps I ds vs → Reps I (ds.drop n) (vs.drop n)
  | _, _, 0, r => r
  | _, _, _ + 1, .nil => .nil
  | _, _, n + 1, .cons _ r => Reps.drop n r
theorem Reps.reverse {I : Hp} : ∀ {ds : List D} {vs : List V}, Reps I ds vs → Reps I ds.reverse vs.reverse
  | _, _, .nil => .nil
  | _, _, .cons h r => by
    rw [List.reverse_cons, List.reverse_cons]
    exact Reps.append (Reps.reverse r) (.cons h .nil)
theorem Reps.rep {I : Hp} {ds : List D} {vs : List V} (h : Reps I ds vs) : ∀ n : Nat, Reps I (List.replicate n ds).flatten (List.replicate n vs).flatten
  | 0 => .nil
  | n + 1 => by
    rw [List.replicate_succ, List.replicate_succ, List.flatten_cons, List.flatten_cons]
    exact Reps.append h (Reps.rep h n)

/-! ### slots, cells -/
inductive O where
  | no | dat (d : D) | adr (k : Nat) | scr (a : Addr) (u : Option HO)
abbrev Mem := List (Option (List O))

def Vo (I : Hp) (adr : List Addr) : O → V → Prop
  | .no, _ => True
  | .dat d, v => Rep I d v
  | .adr k, v => ∃ a, adr[k]? = some a ∧ v = .ref a
  | .scr a u, v => v = .ref a ∧ ∀ o, u = some o → I a = some o
def Vso (I : Hp) (adr : List Addr) (o : O) (ov : Option V) : Prop := match ov with
  | some v => Vo I adr o v
  | none => o = .no
abbrev Vs (I : Hp) (adr : List Addr) : List O → List V → Prop := Paired (Vo I adr)

structure Sto (I H : Hp) (adr : List Addr) (M : Mem) : Prop where
  len : adr.length = M.length
  nd : adr.Nodup
  cell : ∀ (k : Nat) (a : Addr) (os : List O), adr[k]? = some a → M[k]? = some (some os) → I a = none ∧ ∃ xs, H a = some (.lst xs) ∧ Vs I adr os xs
  dom : ∀ (k : Nat) (a : Addr), adr[k]? = some a → ∃ u, H a = some u
structure Stt (I H : Hp) (adr : List Addr) (σ : L2.St) (E : List O) (M : Mem) : Prop where
  ex : Ex I H
  sto : Sto I H adr M
  len : E.length = σ.length
  slot : ∀ (i : Nat) (o : O) (ov : Option V), E[i]? = some o → σ[i]? = some ov → Vso I adr o ov
structure Grow (I H : Hp) (adr : List Addr) (I' H' : Hp) (adr' : List Addr) : Prop where
  ex : Ex I I'
  new : ∃ nw, adr' = adr ++ nw ∧ ∀ p ∈ nw, H p = none
  keep : ∀ p u, H p = some u → p ∉ adr → H' p = some u
  dom : ∀ p u, H p = some u → ∃ u', H' p = some u'
  out : ∀ p u, H p = some u → I p = none → p ∉ adr → I' p = none

section
variable {I H I1 H1 I2 H2 I' H' : Hp} {adr adr1 adr2 adr' : List Addr} {σ : L2.St} {E : List O} {M M' : Mem}
theorem Grow.refl : Grow I H adr I H adr := ⟨Ex.refl _, ⟨[], by simp, by simp⟩, fun _ _ h _ => h, fun _ u h => ⟨u, h⟩, fun _ _ _ h _ => h⟩
theorem Grow.trans (a : Grow I H adr I1 H1 adr1) (b : Grow I1 H1 adr1 I2 H2 adr2) : Grow I H adr I2 H2 adr2 := by
  obtain ⟨nw, rfl, hn⟩ := a.new
  obtain ⟨nv, rfl, hv⟩ := b.new
  have nin : ∀ p u, H p = some u → p ∉ adr → p ∉ adr ++ nw := fun p u h q z => by
    rcases List.mem_append.mp z with z | z
    · exact q z
    · rw [hn p z] at h
      cases h
  refine ⟨a.ex.trans b.ex, ⟨nw ++ nv, by rw [List.append_assoc], fun p hp => ?_⟩, fun p u h q => b.keep p u (a.keep p u h q) (nin p u h q), fun p u h => ?_, fun p u h q r => b.out p u (a.keep p u h r) (a.out p u h q r) (nin p u h r)⟩
  · rcases List.mem_append.mp hp with z | z
    · exact hn p z
    · cases q : H p with
      | none => rfl
      | some u =>
        obtain ⟨u', e⟩ := a.dom p u q
        rw [hv p z] at e
        cases e
  · obtain ⟨u', e⟩ := a.dom p u h
    exact b.dom p u' e
theorem Grow.get (g : Grow I H adr I' H' adr') {k : Nat} {a : Addr} (h : adr[k]? = some a) : adr'[k]? = some a := by
  obtain ⟨nw, rfl, _⟩ := g.new
  rw [List.getElem?_append_left (List.getElem?_eq_some_iff.mp h).1]
  exact h
theorem Vo.mono (g : Grow I H adr I' H' adr') : ∀ {o : O} {v : V}, Vo I adr o v → Vo I' adr' o v
  | .no, _, _ => True.intro
  | .dat _, _, h => Rep.mono g.ex h
  | .adr _, _, h => by
    obtain ⟨a, h1, h2⟩ := h
    exact ⟨a, g.get h1, h2⟩
  | .scr _ _, _, h => ⟨h.1, fun o q => g.ex _ _ (h.2 o q)⟩
theorem Vo.ext (e : Ex I I') : ∀ {o : O} {v : V}, Vo I adr o v → Vo I' adr o v
  | .no, _, _ => True.intro
  | .dat _, _, h => Rep.mono e h
  | .adr _, _, h => h
  | .scr _ _, _, h => ⟨h.1, fun o q => e _ _ (h.2 o q)⟩
theorem Vo.more {nw : List Addr} : ∀ {o : O} {v : V}, Vo I adr o v → Vo I (adr ++ nw) o v
  | .no, _, _ => True.intro
  | .dat _, _, h => h
  | .adr _, _, h => by
    obtain ⟨a, h1, h2⟩ := h
    exact ⟨a, by rw [List.getElem?_append_left (List.getElem?_eq_some_iff.mp h1).1]; exact h1, h2⟩
  | .scr _ _, _, h => h
theorem Vs.mono (g : Grow I H adr I' H' adr') : ∀ {os : List O} {vs : List V}, Vs I adr os vs → Vs I' adr' os vs
  | _, _, .nil => .nil
  | _, _, .cons h r => .cons (Vo.mono g h) (Vs.mono g r)
theorem Vs.ext (e : Ex I I') : ∀ {os : List O} {vs : List V}, Vs I adr os vs → Vs I' adr os vs
  | _, _, .nil => .nil
  | _, _, .cons h r => .cons (Vo.ext e h) (Vs.ext e r)
theorem Vs.more {nw : List Addr} : ∀ {os : List O} {vs : List V}, Vs I adr os vs → Vs I (adr ++ nw) os vs
  | _, _, .nil => .nil
  | _, _, .cons h r => .cons (Vo.more h) (Vs.more r)
theorem Vs.app : ∀ {os ps : List O} {vs ws : List V}, Vs I adr os vs → Vs I adr ps ws → Vs I adr (os ++ ps) (vs ++ ws)
  | _, _, _, _, .nil, s => s
  | _, _, _, _, .cons h r, s => .cons h (Vs.app r s)
theorem Vs.length {os : List O} {vs : List V} (h : Vs I adr os vs) : os.length = vs.length := Paired.length h
theorem Vs.get : ∀ {os : List O} {vs : List V} {i : Nat} {o : O}, Vs I adr os vs → os[i]? = some o → ∃ v, vs[i]? = some v ∧ Vo I adr o v
  | _, _, _, _, .nil, e => by simp at e
  | _, _, 0, _, .cons h _, e => by
    simp at e
    subst e
    exact ⟨_, rfl, h⟩
  | _, _, i + 1, _, .cons _ r, e => by
    obtain ⟨v, h1, h2⟩ := Vs.get (i := i) r (by simpa using e)
    exact ⟨v, by simpa using h1, h2⟩
theorem Vs.set {o : O} {v : V} (h : Vo I adr o v) : ∀ {os : List O} {vs : List V} (i : Nat), Vs I adr os vs → Vs I adr (os.set i o) (vs.set i v)
  | _, _, _, .nil => .nil
  | _, _, 0, .cons _ r => .cons h r
  | _, _, i + 1, .cons q r => .cons q (Vs.set h i r)
theorem Vs.take : ∀ {os : List O} {vs : List V} (n : Nat), Vs I adr os vs → Vs I adr (os.take n) (vs.take n)
  | _, _, 0, _ => .nil
  | _, _, _ + 1, .nil => .nil
  | _, _, n + 1, .cons h r => .cons h (Vs.take n r)
theorem Vs.drop : ∀ {os : List O} {vs : List V} (n : Nat), Vs I adr os vs → Vs I adr (os.drop n) (vs.drop n)
  | _, _, 0, r => r
  | _, _, _ + 1, .nil => .nil
  | _, _, n + 1, .cons _ r => Vs.drop n r
theorem Vs.dropLast : ∀ {os : List O} {vs : List V}, Vs I adr os vs → Vs I adr os.dropLast vs.dropLast
  | _, _, .nil => .nil
  | _, _, .cons _ .nil => .nil
  | _, _, .cons h (.cons h2 r) => .cons h (Vs.dropLast (.cons h2 r))
theorem Vs.reps : ∀ {ds : List D} {vs : List V}, Reps I ds vs → Vs I adr (ds.map .dat) vs
  | _, _, .nil => .nil
  | _, _, .cons h r => .cons h (Vs.reps r)
theorem Vs.to : ∀ {ds : List D} {vs : List V}, Vs I adr (ds.map .dat) vs → Reps I ds vs
  | [], _, .nil => .nil
  | _ :: _, _, .cons h r => .cons h (Vs.to r)
theorem Vso.mono (g : Grow I H adr I' H' adr') {o : O} : ∀ {ov : Option V}, Vso I adr o ov → Vso I' adr' o ov
  | some _, h => Vo.mono g h
  | none, h => h
theorem Stt.mono (s : Stt I H adr σ E M) (g : Grow I H adr I' H' adr') (e : Ex I' H') (t : Sto I' H' adr' M') : Stt I' H' adr' σ E M' :=
  ⟨e, t, s.len, fun i o ov h1 h2 => (s.slot i o ov h1 h2).mono g⟩
theorem Stt.inB (s : Stt I H adr σ E M) {k : Nat} {a : Addr} (h : adr[k]? = some a) : k < M.length := by
  rw [← s.sto.len]
  exact (List.getElem?_eq_some_iff.mp h).1
/-- a new thing that never changes -/
theorem Sto.ext {o : HO} {p : Addr} (t : Sto I H adr M) (hi : I p = none) (hp : H p = none) : Sto (upd I p o) (upd H p o) adr M := by
  have ne : ∀ (k : Nat) (a : Addr), adr[k]? = some a → a ≠ p := fun k a h => by
    obtain ⟨u, e⟩ := t.dom k a h
    exact ne_of_none e hp
  refine ⟨t.len, t.nd, fun k a os h1 h2 => ?_, fun k a h => ?_⟩
  · obtain ⟨h3, xs, h4, h5⟩ := t.cell k a os h1 h2
    refine ⟨by rw [upd_ne (ne k a h1)]; exact h3, xs, by rw [upd_ne (ne k a h1)]; exact h4, ?_⟩
    exact h5.ext (Ex.new hi)
  · obtain ⟨u, e⟩ := t.dom k a h
    exact ⟨u, by rw [upd_ne (ne k a h)]; exact e⟩
theorem Grow.ext {o : HO} {p : Addr} (hi : I p = none) (hp : H p = none) : Grow I H adr (upd I p o) (upd H p o) adr := by
  refine ⟨Ex.new hi, ⟨[], by simp, by simp⟩, fun q u h _ => ?_, fun q u h => ⟨u, ?_⟩, fun q u h h2 _ => ?_⟩
  · rw [upd_ne (ne_of_none h hp)]; exact h
  · rw [upd_ne (ne_of_none h hp)]; exact h
  · rw [upd_ne (ne_of_none h hp)]; exact h2
theorem Stt.ext {o : HO} {p : Addr} (s : Stt I H adr σ E M) (hp : H p = none) : Stt (upd I p o) (upd H p o) adr σ E M ∧ Grow I H adr (upd I p o) (upd H p o) adr := by
  have hi := s.ex.non hp
  have g : Grow I H adr (upd I p o) (upd H p o) adr := Grow.ext hi hp
  exact ⟨s.mono g s.ex.upd (s.sto.ext hi hp), g⟩
theorem Stt.tup {p : Addr} {xs : List V} {ds : List D} (s : Stt I H adr σ E M) (hp : H p = none) (r : Reps I ds xs) :
    Stt (upd I p (.tup xs)) (upd H p (.tup xs)) adr σ E M ∧ Grow I H adr (upd I p (.tup xs)) (upd H p (.tup xs)) adr ∧ Rep (upd I p (.tup xs)) (.tup ds) (.ref p) :=
  let ⟨a, b⟩ := s.ext (o := .tup xs) hp
  ⟨a, b, .tup upd_same (r.mono b.ex)⟩
theorem Stt.lst {p : Addr} {xs : List V} {ds : List D} (s : Stt I H adr σ E M) (hp : H p = none) (r : Reps I ds xs) :
    Stt (upd I p (.lst xs)) (upd H p (.lst xs)) adr σ E M ∧ Grow I H adr (upd I p (.lst xs)) (upd H p (.lst xs)) adr ∧ Rep (upd I p (.lst xs)) (.lst ds) (.ref p) :=
  let ⟨a, b⟩ := s.ext (o := .lst xs) hp
  ⟨a, b, .lst upd_same (r.mono b.ex)⟩
/-- a new cell -/
theorem Stt.cel {p : Addr} {xs : List V} {os : List O} (s : Stt I H adr σ E M) (hp : H p = none) (r : Vs I adr os xs) :
    Stt I (upd H p (.lst xs)) (adr ++ [p]) σ E (M ++ [some os]) ∧ Grow I H adr I (upd H p (.lst xs)) (adr ++ [p]) ∧ (adr ++ [p])[M.length]? = some p := by
  have hi := s.ex.non hp
  have ne : ∀ (k : Nat) (a : Addr), adr[k]? = some a → a ≠ p := fun k a h => by
    obtain ⟨u, e⟩ := s.sto.dom k a h
    exact ne_of_none e hp
  have g : Grow I H adr I (upd H p (.lst xs)) (adr ++ [p]) := by
    refine ⟨Ex.refl _, ⟨[p], rfl, fun q hq => by rw [List.mem_singleton.mp hq]; exact hp⟩, fun q u h _ => ?_, fun q u h => ⟨u, ?_⟩, fun q u h h2 _ => h2⟩
    · rw [upd_ne (ne_of_none h hp)]; exact h
    · rw [upd_ne (ne_of_none h hp)]; exact h
  have at_p : (adr ++ [p])[M.length]? = some p := by
    rw [← s.sto.len, List.getElem?_append_right (Nat.le_refl _), Nat.sub_self]
    rfl
  have old : ∀ (k : Nat) (a : Addr), (adr ++ [p])[k]? = some a → (k < adr.length ∧ adr[k]? = some a) ∨ (k = adr.length ∧ a = p) := fun k a h => by
    by_cases hk : k < adr.length
    · rw [List.getElem?_append_left hk] at h
      exact .inl ⟨hk, h⟩
    · rw [List.getElem?_append_right (Nat.le_of_not_lt hk)] at h
      have hk2 : k - adr.length = 0 := by
        have := (List.getElem?_eq_some_iff.mp h).1
        simp at this
        omega
      rw [hk2] at h
      simp at h
      exact .inr ⟨by omega, h.symm⟩
  refine ⟨s.mono g (s.ex.mut hi) ⟨by simp [s.sto.len], ?_, fun k a os' h1 h2 => ?_, fun k a h => ?_⟩, g, at_p⟩
  · rw [List.nodup_append]
    refine ⟨s.sto.nd, by simp, fun a ha b hb z => ?_⟩
    obtain ⟨k, hk⟩ := List.getElem?_of_mem ha
    rw [List.mem_singleton] at hb
    exact ne k a hk (z.trans hb)
  · rcases old k a h1 with ⟨hk, h3⟩ | ⟨hk, rfl⟩
    · rw [List.getElem?_append_left (by rw [← s.sto.len]; exact hk)] at h2
      obtain ⟨c1, ys, c2, c3⟩ := s.sto.cell k a os' h3 h2
      exact ⟨c1, ys, by rw [upd_ne (ne k a h3)]; exact c2, c3.more⟩
    · rw [hk, s.sto.len, List.getElem?_append_right (Nat.le_refl _), Nat.sub_self] at h2
      have e : os = os' := by simpa using h2
      subst e
      exact ⟨hi, xs, upd_same, r.more⟩
  · rcases old k a h with ⟨hk, h3⟩ | ⟨hk, rfl⟩
    · obtain ⟨u, e⟩ := s.sto.dom k a h3
      exact ⟨u, by rw [upd_ne (ne k a h3)]; exact e⟩
    · exact ⟨_, upd_same⟩
/-- a cell is written -/
theorem Stt.wri {k : Nat} {a : Addr} {xs : List V} {os os0 : List O} (s : Stt I H adr σ E M) (ha : adr[k]? = some a) (hm : M[k]? = some (some os0)) (r : Vs I adr os xs) :
    Stt I (upd H a (.lst xs)) adr σ E (M.set k (some os)) ∧ Grow I H adr I (upd H a (.lst xs)) adr := by
  obtain ⟨hi, ys, hy, _⟩ := s.sto.cell k a os0 ha hm
  have hin : a ∈ adr := List.mem_of_getElem? ha
  have g : Grow I H adr I (upd H a (.lst xs)) adr := by
    refine ⟨Ex.refl _, ⟨[], by simp, by simp⟩, fun q u h hq => ?_, fun q u h => ?_, fun q u h h2 _ => h2⟩
    · rw [upd_ne (fun z => hq (by rw [z]; exact hin))]; exact h
    · by_cases z : q = a
      · subst z; exact ⟨_, upd_same⟩
      · exact ⟨u, by rw [upd_ne z]; exact h⟩
  have uniq : ∀ (j : Nat) (b : Addr), adr[j]? = some b → j ≠ k → b ≠ a := fun j b hb hj z => by
    subst z
    exact hj (List.getElem?_inj (List.getElem?_eq_some_iff.mp hb).1 s.sto.nd |>.mp (hb.trans ha.symm))
  refine ⟨s.mono g (s.ex.mut hi) ⟨by rw [List.length_set]; exact s.sto.len, s.sto.nd, fun j b ps h1 h2 => ?_, fun j b h => ?_⟩, g⟩
  · by_cases hj : j = k
    · subst hj
      rw [h1] at ha
      cases ha
      rw [List.getElem?_set_self (s.inB h1)] at h2
      have e : os = ps := by simpa using h2
      subst e
      exact ⟨hi, xs, upd_same, r⟩
    · rw [List.getElem?_set_ne (fun z => hj z.symm)] at h2
      obtain ⟨c1, zs, c2, c3⟩ := s.sto.cell j b ps h1 h2
      exact ⟨c1, zs, by rw [upd_ne (uniq j b h1 hj)]; exact c2, c3⟩
  · by_cases z : b = a
    · subst z; exact ⟨_, upd_same⟩
    · obtain ⟨u, e⟩ := s.sto.dom j b h
      exact ⟨u, by rw [upd_ne z]; exact e⟩
/-- a cell of data is frozen -/
theorem Stt.frz {k : Nat} {a : Addr} {ds : List D} (s : Stt I H adr σ E M) (ha : adr[k]? = some a) (hm : M[k]? = some (some (ds.map .dat))) :
    ∃ I', Stt I' H adr σ E (M.set k none) ∧ Grow I H adr I' H adr ∧ Rep I' (.lst ds) (.ref a) := by
  obtain ⟨hi, ys, hy, hr⟩ := s.sto.cell k a _ ha hm
  have hin : a ∈ adr := List.mem_of_getElem? ha
  have g : Grow I H adr (upd I a (.lst ys)) H adr := by
    refine ⟨Ex.new hi, ⟨[], by simp, by simp⟩, fun q u h hq => h, fun q u h => ⟨u, h⟩, fun q u h h2 hq => ?_⟩
    rw [upd_ne (fun z => hq (by rw [z]; exact hin))]; exact h2
  have ex : Ex (upd I a (.lst ys)) H := fun q u h => by
    by_cases z : q = a
    · subst z; rw [upd_same] at h; cases h; exact hy
    · rw [upd_ne z] at h; exact s.ex q u h
  refine ⟨upd I a (.lst ys), s.mono g ex ⟨by rw [List.length_set]; exact s.sto.len, s.sto.nd, fun j b ps h1 h2 => ?_, s.sto.dom⟩, g, .lst upd_same (hr.to.mono g.ex)⟩
  by_cases hj : j = k
  · subst hj
    rw [List.getElem?_set_self (s.inB h1)] at h2
    cases h2
  · rw [List.getElem?_set_ne (fun z => hj z.symm)] at h2
    obtain ⟨c1, zs, c2, c3⟩ := s.sto.cell j b ps h1 h2
    have ne : b ≠ a := fun z => by
      subst z
      exact hj (List.getElem?_inj (List.getElem?_eq_some_iff.mp h1).1 s.sto.nd |>.mp (h1.trans ha.symm))
    exact ⟨by rw [upd_ne ne]; exact c1, zs, c2, c3.ext g.ex⟩
theorem Stt.set {i : Nat} {o : O} {v : V} (s : Stt I H adr σ E M) (h : Vo I adr o v) : Stt I H adr (σ.set i (some v)) (E.set i o) M := by
  refine ⟨s.ex, s.sto, by rw [List.length_set, List.length_set]; exact s.len, fun j p ov h1 h2 => ?_⟩
  by_cases hj : j = i
  · subst hj
    by_cases hl : j < E.length
    · rw [List.getElem?_set_self hl] at h1
      rw [List.getElem?_set_self (by rw [← s.len]; exact hl)] at h2
      cases h1
      cases h2
      exact h
    · have := (List.getElem?_eq_some_iff.mp h1).1
      rw [List.length_set] at this
      exact absurd this hl
  · rw [List.getElem?_set_ne (fun z => hj z.symm)] at h1 h2
    exact s.slot j p ov h1 h2
theorem Stt.frame {k : Nat} (s : Stt I H adr σ E M) : Stt I H adr [] [] M := ⟨s.ex, s.sto, rfl, fun i o ov h _ => by simp at h⟩
end
end Ab
/-! Ab: judgements. -/
namespace Ab
open PySem PySem.Spec PyProof.Rows L2

/-! ### readings -/
def Ev (t : TE) (E : List O) (M : Mem) (o : O) (M' : Mem) : Prop :=
  ∀ (I H : Hp) (adr : List Addr) (σ : L2.St) (Q : VK), Stt I H adr σ E M → (∀ v I' H' adr', Stt I' H' adr' σ E M' → Grow I H adr I' H' adr' → Vo I' adr' o v → Q v H') → t σ H Q
def Et (t : TT) (E : List O) (M : Mem) (b : Bool) (M' : Mem) : Prop :=
  ∀ (I H : Hp) (adr : List Addr) (σ : L2.St) (Q : Bool → Hp → Prop), Stt I H adr σ E M → (∀ I' H' adr', Stt I' H' adr' σ E M' → Grow I H adr I' H' adr' → Q b H') → t σ H Q
def Ea (t : TA) (E : List O) (M : Mem) (os : List O) (M' : Mem) : Prop :=
  ∀ (I H : Hp) (adr : List Addr) (σ : L2.St) (Q : List V → Hp → Prop), Stt I H adr σ E M → (∀ vs I' H' adr', Stt I' H' adr' σ E M' → Grow I H adr I' H' adr' → Vs I' adr' os vs → Q vs H') → t σ H Q
inductive Out where
  | nx (E : List O) (M : Mem) | rt (o : O) (M : Mem) | bk (E : List O) (M : Mem) | ct (E : List O) (M : Mem)
def End (D : Ends) (I H : Hp) (adr : List Addr) : Out → Prop
  | .nx E M => ∀ I' H' adr' σ', Stt I' H' adr' σ' E M → Grow I H adr I' H' adr' → D.nx σ' H'
  | .rt o M => ∀ v I' H' adr', Stt I' H' adr' [] [] M → Grow I H adr I' H' adr' → Vo I' adr' o v → D.rt v H'
  | .bk E M => ∀ I' H' adr' σ', Stt I' H' adr' σ' E M → Grow I H adr I' H' adr' → D.bk σ' H'
  | .ct E M => ∀ I' H' adr' σ', Stt I' H' adr' σ' E M → Grow I H adr I' H' adr' → D.ct σ' H'
theorem End.mono {D : Ends} {I H I1 H1 : Hp} {adr adr1 : List Addr} (g : Grow I H adr I1 H1 adr1) : ∀ {r : Out}, End D I H adr r → End D I1 H1 adr1 r
  | .nx _ _, h => fun I' H' adr' σ' s k => h I' H' adr' σ' s (g.trans k)
  | .rt _ _, h => fun v I' H' adr' s k => h v I' H' adr' s (g.trans k)
  | .bk _ _, h => fun I' H' adr' σ' s k => h I' H' adr' σ' s (g.trans k)
  | .ct _ _, h => fun I' H' adr' σ' s k => h I' H' adr' σ' s (g.trans k)
def Do (t : TS) (E : List O) (M : Mem) (r : Out) : Prop :=
  ∀ (I H : Hp) (adr : List Addr) (σ : L2.St) (D : Ends), Stt I H adr σ E M → End D I H adr r → t D σ H

/-! ### contexts -/
structure Pg where
  P : Program
  w : World
  K : PySem.W.Frag
  mg : Str → Option Value
  base : Heap
structure Cc where
  g : Pg
  N : List Str
  sc : Scope
  fn : Str → Bool
  k : Nat
structure CxIs (C : Cc) (X : Cx) : Prop where
  P : X.prog = C.g.P
  w : X.w = C.g.w
  K : X.K = C.g.K
  mg : X.mg = C.g.mg
  base : X.base = C.g.base
  N : X.N = C.N
  sc : X.env.scope = C.sc
  calm : X.calm = true
  room : Room C.k X.A
  nox : X.xe = fun _ _ => False
  fn : ∀ x, C.fn x = true → X.fn x = true

def UE (C : Cc) (e : Expr) : TE := fun σ H Q => ∃ t : TE, (∀ X, CxIs C X → PE X e t) ∧ t σ H Q
def UT (C : Cc) (e : Expr) : TT := fun σ H Q => ∃ t : TT, (∀ X, CxIs C X → PT X e t) ∧ t σ H Q
def UW (C : Cc) (e : Expr) : TT := fun σ H Q => ∃ t : TT, (∀ X, CxIs C X → PW X e t) ∧ t σ H Q
def UA (C : Cc) (es : List Expr) : TA := fun σ H Q => ∃ t : TA, (∀ X, CxIs C X → PA X es t) ∧ t σ H Q
def US (C : Cc) (st : Stmt) : TS := fun D σ H => ∃ t : TS, (∀ X, CxIs C X → PS X st t) ∧ t D σ H
def UB (C : Cc) (sts : List Stmt) : TS := fun D σ H => ∃ t : TS, (∀ X, CxIs C X → PSs X sts t) ∧ t D σ H
theorem ue {C : Cc} {X : Cx} (h : CxIs C X) (e : Expr) : PE X e (UE C e) := ⟨fun pins s σ H Q I q => let ⟨_, p, q⟩ := q; (p X h).run pins s σ H Q I q⟩
theorem ut {C : Cc} {X : Cx} (h : CxIs C X) (e : Expr) : PT X e (UT C e) := ⟨fun pins s σ H Q I q => let ⟨_, p, q⟩ := q; (p X h).run pins s σ H Q I q⟩
theorem uw {C : Cc} {X : Cx} (h : CxIs C X) (e : Expr) : PW X e (UW C e) := ⟨fun wh pins s σ H Q I q => let ⟨_, p, q⟩ := q; (p X h).run wh pins s σ H Q I q⟩
theorem ua {C : Cc} {X : Cx} (h : CxIs C X) (es : List Expr) : PA X es (UA C es) := ⟨fun pos pins s σ H Q I q => let ⟨_, p, q⟩ := q; (p X h).run pos pins s σ H Q I q⟩
theorem us {C : Cc} {X : Cx} (h : CxIs C X) (st : Stmt) : PS X st (US C st) := ⟨fun pins s σ H D I q => let ⟨_, p, q⟩ := q; (p X h).run pins s σ H D I q⟩
theorem ub {C : Cc} {X : Cx} (h : CxIs C X) (sts : List Stmt) : PSs X sts (UB C sts) := ⟨fun pins s σ H D I q => let ⟨_, p, q⟩ := q; (p X h).run pins s σ H D I q⟩

def EV (C : Cc) (e : Expr) (E : List O) (M : Mem) (o : O) (M' : Mem) : Prop := Ev (UE C e) E M o M'
def ET (C : Cc) (e : Expr) (E : List O) (M : Mem) (b : Bool) (M' : Mem) : Prop := Et (UT C e) E M b M'
def EW (C : Cc) (e : Expr) (E : List O) (M : Mem) (b : Bool) (M' : Mem) : Prop := Et (UW C e) E M b M'
def EA (C : Cc) (es : List Expr) (E : List O) (M : Mem) (os : List O) (M' : Mem) : Prop := Ea (UA C es) E M os M'
def ST (C : Cc) (st : Stmt) (E : List O) (M : Mem) (r : Out) : Prop := Do (US C st) E M r
def SB (C : Cc) (sts : List Stmt) (E : List O) (M : Mem) (r : Out) : Prop := Do (UB C sts) E M r

section
variable {C : Cc} {E : List O} {M M1 M2 M3 M' : Mem} {o o1 o2 o3 : O} {os : List O} {e a b c : Expr} {pos pos' : Pos} {r : Out} {d d1 d2 : D} {ta tb te : TE}
theorem EV.mk {t : TE} (h1 : ∀ X, CxIs C X → PE X e t) (h2 : Ev t E M o M') : EV C e E M o M' := fun I H adr σ Q s q => ⟨t, h1, h2 I H adr σ Q s q⟩
theorem ET.mk {t : TT} {b : Bool} (h1 : ∀ X, CxIs C X → PT X e t) (h2 : Et t E M b M') : ET C e E M b M' := fun I H adr σ Q s q => ⟨t, h1, h2 I H adr σ Q s q⟩
theorem EW.mk {t : TT} {b : Bool} (h1 : ∀ X, CxIs C X → PW X e t) (h2 : Et t E M b M') : EW C e E M b M' := fun I H adr σ Q s q => ⟨t, h1, h2 I H adr σ Q s q⟩
theorem EA.mk {es : List Expr} {t : TA} (h1 : ∀ X, CxIs C X → PA X es t) (h2 : Ea t E M os M') : EA C es E M os M' := fun I H adr σ Q s q => ⟨t, h1, h2 I H adr σ Q s q⟩
theorem ST.mk {st : Stmt} {t : TS} (h1 : ∀ X, CxIs C X → PS X st t) (h2 : Do t E M r) : ST C st E M r := fun I H adr σ D s q => ⟨t, h1, h2 I H adr σ D s q⟩
theorem SB.mk {sts : List Stmt} {t : TS} (h1 : ∀ X, CxIs C X → PSs X sts t) (h2 : Do t E M r) : SB C sts E M r := fun I H adr σ D s q => ⟨t, h1, h2 I H adr σ D s q⟩

/-! ### names, constants -/
theorem EV.to {o' : O} (h : EV C e E M o M') (q : o = o') : EV C e E M o' M' := q ▸ h
theorem ev_name {i : Nat} (h : E[i]? = some o) (hn : o ≠ .no) : Ev (tVar i) E M o M := fun I H adr σ Q s q => by
  have hl : i < σ.length := by
    rw [← s.len]
    exact (List.getElem?_eq_some_iff.mp h).1
  have h2 : σ[i]? = some σ[i] := List.getElem?_eq_getElem hl
  have h3 := s.slot i o _ h h2
  cases hv : σ[i] with
  | none =>
    rw [hv] at h3
    exact absurd h3 hn
  | some v =>
    rw [hv] at h3 h2
    exact ⟨v, h2, q v I H adr s Grow.refl h3⟩
theorem EV.nm (i : Nat) {x : Str} (hN : C.N[i]? = some x := by rfl) (h : E[i]? = some o := by rfl) (hn : o ≠ .no := by intro z; cases z) (hv : Vis C.sc x := by first | exact Or.inl rfl | exact Or.inr (Or.inl rfl) | exact Or.inr (Or.inr rfl))
    (hd : (x == ("__debug__" : Str)) = false := by decide) (hcd : (x == ("__classdict__" : Str)) = false := by decide) : EV C (.Name x pos) E M o M :=
  EV.mk (fun X hX => pe_var (by rw [hX.N]; exact hN) (by rw [hX.sc]; exact hv) hd hcd) (ev_name h hn)
theorem ev_c {v : V} (h : ∀ I, Rep I d v) : Ev (tC v) E M (.dat d) M := fun I H adr σ Q s q => q v I H adr s Grow.refl (h I)
theorem EV.int {i : Int} {j : Nat} : EV C (.Constant (.int i) j pos) E M (.dat (.int i)) M := EV.mk (fun _ _ => pe_int) (ev_c fun _ => .int i)
theorem EV.bl {i : Bool} {j : Nat} : EV C (.Constant (.bool i) j pos) E M (.dat (.bl i)) M := EV.mk (fun _ _ => pe_bl) (ev_c fun _ => .bl i)
theorem EV.non {j : Nat} : EV C (.Constant .none j pos) E M (.dat .non) M := EV.mk (fun _ _ => pe_non) (ev_c fun _ => .non)
theorem EV.str {x : Str} {j : Nat} : EV C (.Constant (.str x) j pos) E M (.dat (.str x)) M := EV.mk (fun _ _ => pe_str) (ev_c fun _ => .str x)
theorem EV.gint {x : Str} {i : Int} {t : Tok} (hm : C.g.mg x = some (.int i t)) (hg : C.sc.names.lookup x = some .globalImplicit := by rfl) (hd : (x == ("__debug__" : Str)) = false := by decide) : EV C (.Name x pos) E M (.dat (.int i)) M :=
  EV.mk (fun X hX => pe_glob (v := .int i) (u := .int i t) (by show X.env.scope.names.lookup x = _; rw [hX.sc]; exact hg) (by rw [hX.mg]; exact hm) ⟨t, rfl⟩ hd) (ev_c fun _ => .int i)

/-! ### operators -/
def RO (r : R2) (o1 o2 : O) (M : Mem) (o : O) (M' : Mem) : Prop :=
  ∀ (I H : Hp) (adr : List Addr) (σ : L2.St) (E : List O) (v w : V) (Q : VK), Stt I H adr σ E M → Vo I adr o1 v → Vo I adr o2 w → (∀ z I' H' adr', Stt I' H' adr' σ E M' → Grow I H adr I' H' adr' → Vo I' adr' o z → Q z H') → r v w H Q
theorem ev_op {r : R2} (ha : Ev ta E M o1 M1) (hb : Ev tb E M1 o2 M2) (hr : RO r o1 o2 M2 o M') : Ev (tOp r ta tb) E M o M' := fun I H adr σ Q s q =>
  ha I H adr σ _ s fun v I1 H1 adr1 s1 g1 v1 => hb I1 H1 adr1 σ _ s1 fun w I2 H2 adr2 s2 g2 w2 =>
    hr I2 H2 adr2 σ E v w Q s2 (v1.mono g2) w2 fun z I3 H3 adr3 s3 g3 z3 => q z I3 H3 adr3 s3 ((g1.trans g2).trans g3) z3
theorem EV.op {op : Operator} {r : R2} (ha : EV C a E M o1 M1) (hb : EV C b E M1 o2 M2) (ho : ∀ X, CxIs C X → OpR X (binaryOp op) r) (hr : RO r o1 o2 M2 o M') : EV C (.BinOp a op b pos) E M o M' :=
  EV.mk (fun X hX => pe_op (ho X hX) (ue hX a) (ue hX b)) (ev_op ha hb hr)
theorem EV.cmp {op : CmpOp} {r : R2} (ha : EV C a E M o1 M1) (hb : EV C b E M1 o2 M2) (ho : ∀ X, CxIs C X → OpR X (compareOp op) r) (hr : RO r o1 o2 M2 o M') (hm : behindInMarks op b = false) : EV C (.Compare a [op] [b] pos) E M o M' :=
  EV.mk (fun X hX => pe_cmpR (ho X hX) (ue hX a) (ue hX b) hm) (ev_op ha hb hr)
theorem et_test {b : Bool} (h : Ev te E M (.dat (.bl b)) M') : Et (tTest te) E M b M' := fun I H adr σ Q s q =>
  h I H adr σ _ s fun v I1 H1 adr1 s1 g1 v1 => by
    cases (show Rep I1 (.bl b) v from v1)
    exact ⟨b, rfl, q I1 H1 adr1 s1 g1⟩
theorem et_B {b : Bool} (h : Ev te E M (.dat (.bl b)) M') : Et (tB te) E M b M' := fun I H adr σ Q s q =>
  h I H adr σ _ s fun v I1 H1 adr1 s1 g1 v1 => by
    cases (show Rep I1 (.bl b) v from v1)
    exact ⟨b, rfl, q I1 H1 adr1 s1 g1⟩
theorem ET.cmp {op : CmpOp} {r : R2} {k : Bool} (ha : EV C a E M o1 M1) (hb : EV C b E M1 o2 M2) (ho : ∀ X, CxIs C X → OpR X (compareOp op) r) (hr : RO r o1 o2 M2 (.dat (.bl k)) M') (hm : behindInMarks op b = false) : ET C (.Compare a [op] [b] pos) E M k M' :=
  ET.mk (fun X hX => pt_cmpR (ho X hX) (ue hX a) (ue hX b) hm) (et_test (ev_op ha hb hr))
/-- a test by its value, a bool -/
theorem ET.val {k : Bool} (h : EV C e E M (.dat (.bl k)) M') (he : ∀ env whole, isTrue e env whole = (do let v ← whole; standAt e.pos; holding [v] (truthy v)) := by intro _ _; rfl) : ET C e E M k M' :=
  ET.mk (fun X hX => pt_val (ue hX e) (he X.env)) (et_B h)
theorem tru_lst {K : PySem.W.Frag} {H : Hp} {p : Addr} {xs : List V} (h : H p = some (.lst xs)) : TruV K (.ref p) H (!xs.isEmpty) := .inl ⟨xs, .inl (.inl h), rfl⟩
theorem tru_tup {K : PySem.W.Frag} {H : Hp} {p : Addr} {xs : List V} (h : H p = some (.tup xs)) : TruV K (.ref p) H (!xs.isEmpty) := .inr (.inl ⟨xs, .inl (.inl h), rfl⟩)
/-- a value's truth -/
def tru : D → Option Bool
  | .non => some false
  | .bl b => some b
  | .int i => some (i != 0)
  | .lst ds => some (!ds.isEmpty)
  | .tup ds => some (!ds.isEmpty)
  | _ => none
theorem isEmpty_reps {I : Hp} {ds : List D} {xs : List V} (r : Reps I ds xs) : ds.isEmpty = xs.isEmpty := by cases r <;> rfl
theorem tru_of {K : PySem.W.Frag} {I H : Hp} {v : V} {k : Bool} (e : Ex I H) (h : Rep I d v) (t : tru d = some k) : TruV K v H k := by
  cases h with
  | non => exact (Option.some.inj t).symm
  | bl b => exact (Option.some.inj t).symm
  | int i => exact (Option.some.inj t).symm
  | str s => cases t
  | tup h r =>
    cases t
    rw [isEmpty_reps r]
    exact tru_tup (e _ _ h)
  | lst h r =>
    cases t
    rw [isEmpty_reps r]
    exact tru_lst (e _ _ h)
  | dct h r => cases t
theorem ET.tru {k : Bool} (h : EV C e E M (.dat d) M') (t : tru d = some k) (he : ∀ env whole, isTrue e env whole = (do let v ← whole; standAt e.pos; holding [v] (truthy v)) := by intro _ _; rfl) : ET C e E M k M' :=
  ET.mk (t := fun σ H Q => UE C e σ H fun x H' => ∃ k, TruV C.g.K x H' k ∧ Q k H') (fun X hX => by
    have := pt_truth (ue hX e) (he X.env)
    rw [hX.K] at this
    exact this) fun I H adr σ Q s q => h I H adr σ _ s fun v I1 H1 adr1 s1 g1 v1 => ⟨k, tru_of s1.ex v1 t, q I1 H1 adr1 s1 g1⟩

/-! ### and, or, not -/
theorem pt_dead {X : Cx} : PT X e (fun _ _ _ => False) := ⟨fun _ _ _ _ _ _ h => h.elim⟩
theorem pw_dead {X : Cx} : PW X e (fun _ _ _ => False) := ⟨fun _ _ _ _ _ _ _ h => h.elim⟩
theorem pe_dead {X : Cx} : PE X e (fun _ _ _ => False) := ⟨fun _ _ _ _ _ _ h => h.elim⟩
theorem EW.et {k : Bool} (h : EW C e E M k M') : ET C e E M k M' := ET.mk (fun X hX => (uw hX e).pt) h
theorem EW.and1 {k : Bool} (h : ET C a E M k M') : EW C (.BoolOp .And [a] pos) E M k M' := EW.mk (fun X hX => pw_and1 (ut hX a)) h
theorem EW.or1 {k : Bool} (h : ET C a E M k M') : EW C (.BoolOp .Or [a] pos) E M k M' := EW.mk (fun X hX => pw_or1 (ut hX a)) h
theorem EW.and {k1 k2 : Bool} {rest : List Expr} (ha : ET C a E M k1 M1) (hb : k1 = true → EW C (.BoolOp .And (b :: rest) pos) E M1 k2 M2) (hm : k1 = false → M2 = M1) : EW C (.BoolOp .And (a :: b :: rest) pos) E M (k1 && k2) M2 := by
  cases k1 with
  | true =>
    refine EW.mk (fun X hX => pw_and (ut hX a) (uw hX _)) fun I H adr σ Q s q => ?_
    refine ha I H adr σ _ s fun I1 H1 adr1 s1 g1 => ?_
    show UW C _ σ H1 Q
    exact hb rfl I1 H1 adr1 σ Q s1 fun I2 H2 adr2 s2 g2 => q I2 H2 adr2 s2 (g1.trans g2)
  | false =>
    cases hm rfl
    refine EW.mk (fun X hX => pw_and (ut hX a) pw_dead) fun I H adr σ Q s q => ?_
    refine ha I H adr σ _ s fun I1 H1 adr1 s1 g1 => ?_
    show Q false H1
    exact q I1 H1 adr1 s1 g1
theorem EW.or {k1 k2 : Bool} {rest : List Expr} (ha : ET C a E M k1 M1) (hb : k1 = false → EW C (.BoolOp .Or (b :: rest) pos) E M1 k2 M2) (hm : k1 = true → M2 = M1) : EW C (.BoolOp .Or (a :: b :: rest) pos) E M (k1 || k2) M2 := by
  cases k1 with
  | false =>
    refine EW.mk (fun X hX => pw_or (ut hX a) (uw hX _)) fun I H adr σ Q s q => ?_
    refine ha I H adr σ _ s fun I1 H1 adr1 s1 g1 => ?_
    show UW C _ σ H1 Q
    exact hb rfl I1 H1 adr1 σ Q s1 fun I2 H2 adr2 s2 g2 => q I2 H2 adr2 s2 (g1.trans g2)
  | true =>
    cases hm rfl
    refine EW.mk (fun X hX => pw_or (ut hX a) pw_dead) fun I H adr σ Q s q => ?_
    refine ha I H adr σ _ s fun I1 H1 adr1 s1 g1 => ?_
    show Q true H1
    exact q I1 H1 adr1 s1 g1
theorem ET.not {k : Bool} (h : ET C a E M k M') : ET C (.UnaryOp .Not a pos) E M (!k) M' :=
  ET.mk (fun X hX => pt_not (ut hX a)) fun I H adr σ Q s q => h I H adr σ _ s fun I1 H1 adr1 s1 g1 => q I1 H1 adr1 s1 g1
/-- the same as values, where all parts are bools -/
theorem EV.and1 (h : EV C a E M o M') : EV C (.BoolOp .And [a] pos) E M o M' := EV.mk (fun X hX => pe_one (ue hX a)) h
theorem EV.or1 (h : EV C a E M o M') : EV C (.BoolOp .Or [a] pos) E M o M' := EV.mk (fun X hX => pe_one (ue hX a)) h
theorem EV.and {k1 k2 : Bool} {rest : List Expr} (ha : EV C a E M (.dat (.bl k1)) M1) (hb : k1 = true → EV C (.BoolOp .And (b :: rest) pos) E M1 (.dat (.bl k2)) M2) (hm : k1 = false → M2 = M1) : EV C (.BoolOp .And (a :: b :: rest) pos) E M (.dat (.bl (k1 && k2))) M2 := by
  cases k1 with
  | true =>
    refine EV.mk (fun X hX => pe_and (ue hX a) (ue hX _)) fun I H adr σ Q s q => ?_
    refine ha I H adr σ _ s fun v I1 H1 adr1 s1 g1 v1 => ?_
    cases (show Rep I1 (.bl true) v from v1)
    refine ⟨true, rfl, ?_⟩
    show UE C _ σ H1 Q
    exact hb rfl I1 H1 adr1 σ Q s1 fun z I2 H2 adr2 s2 g2 z2 => q z I2 H2 adr2 s2 (g1.trans g2) z2
  | false =>
    cases hm rfl
    refine EV.mk (fun X hX => pe_and (ue hX a) pe_dead) fun I H adr σ Q s q => ?_
    refine ha I H adr σ _ s fun v I1 H1 adr1 s1 g1 v1 => ?_
    cases (show Rep I1 (.bl false) v from v1)
    refine ⟨false, rfl, ?_⟩
    show Q (.bl false) H1
    exact q _ I1 H1 adr1 s1 g1 (.bl false)
theorem EV.or {k1 k2 : Bool} {rest : List Expr} (ha : EV C a E M (.dat (.bl k1)) M1) (hb : k1 = false → EV C (.BoolOp .Or (b :: rest) pos) E M1 (.dat (.bl k2)) M2) (hm : k1 = true → M2 = M1) : EV C (.BoolOp .Or (a :: b :: rest) pos) E M (.dat (.bl (k1 || k2))) M2 := by
  cases k1 with
  | false =>
    refine EV.mk (fun X hX => pe_or (ue hX a) (ue hX _)) fun I H adr σ Q s q => ?_
    refine ha I H adr σ _ s fun v I1 H1 adr1 s1 g1 v1 => ?_
    cases (show Rep I1 (.bl false) v from v1)
    refine ⟨false, rfl, ?_⟩
    show UE C _ σ H1 Q
    exact hb rfl I1 H1 adr1 σ Q s1 fun z I2 H2 adr2 s2 g2 z2 => q z I2 H2 adr2 s2 (g1.trans g2) z2
  | true =>
    cases hm rfl
    refine EV.mk (fun X hX => pe_or (ue hX a) pe_dead) fun I H adr σ Q s q => ?_
    refine ha I H adr σ _ s fun v I1 H1 adr1 s1 g1 v1 => ?_
    cases (show Rep I1 (.bl true) v from v1)
    refine ⟨true, rfl, ?_⟩
    show Q (.bl true) H1
    exact q _ I1 H1 adr1 s1 g1 (.bl true)
theorem EV.not {k : Bool} (h : EV C a E M (.dat (.bl k)) M') : EV C (.UnaryOp .Not a pos) E M (.dat (.bl (!k))) M' :=
  EV.mk (fun X hX => pe_not (ue hX a)) fun I H adr σ Q s q => h I H adr σ _ s fun v I1 H1 adr1 s1 g1 v1 => by
    cases (show Rep I1 (.bl k) v from v1)
    exact ⟨k, rfl, q _ I1 H1 adr1 s1 g1 (.bl _)⟩
theorem EV.ite {k : Bool} (hc : ET C c E M k M1) (h1 : k = true → EV C a E M1 o M') (h2 : k = false → EV C b E M1 o M') : EV C (.IfExp c a b pos) E M o M' := by
  cases k with
  | true =>
    refine EV.mk (fun X hX => pe_ifExp (ut hX c) (ue hX a) pe_dead) fun I H adr σ Q s q => ?_
    refine hc I H adr σ _ s fun I1 H1 adr1 s1 g1 => ?_
    show UE C a σ H1 Q
    exact h1 rfl I1 H1 adr1 σ Q s1 fun z I2 H2 adr2 s2 g2 z2 => q z I2 H2 adr2 s2 (g1.trans g2) z2
  | false =>
    refine EV.mk (fun X hX => pe_ifExp (ut hX c) pe_dead (ue hX b)) fun I H adr σ Q s q => ?_
    refine hc I H adr σ _ s fun I1 H1 adr1 s1 g1 => ?_
    show UE C b σ H1 Q
    exact h2 rfl I1 H1 adr1 σ Q s1 fun z I2 H2 adr2 s2 g2 z2 => q z I2 H2 adr2 s2 (g1.trans g2) z2

/-! ### argument lists, tuples, lists -/
theorem EA.nil : EA C [] E M [] M := EA.mk (fun _ _ => pa_nil) fun I H adr σ Q s q => q [] I H adr s Grow.refl .nil
theorem EA.cons {es : List Expr} (h : EV C a E M o M1) (hr : EA C es E M1 os M') (hs : ∀ env, starEach (a :: es) env = (false, eval a env) :: starEach es env := by intro _; rfl) : EA C (a :: es) E M (o :: os) M' :=
  EA.mk (fun X hX => pa_cons (ue hX a) (ua hX es) (hs X.env)) fun I H adr σ Q s q => h I H adr σ _ s fun v I1 H1 adr1 s1 g1 v1 =>
    hr I1 H1 adr1 σ _ s1 fun vs I2 H2 adr2 s2 g2 v2 => q (v :: vs) I2 H2 adr2 s2 (g1.trans g2) (.cons (v1.mono g2) v2)
theorem sz_of {n : Nat} (h : n ≤ 100000) : n ≤ sizeLine := Nat.le_trans h (by decide)
theorem sz_lt {n : Nat} (h : n < 100000) : n < sizeLine := Nat.lt_of_lt_of_le h (by decide)
theorem EV.tup {es : List Expr} {ds : List D} {k : Nat} (h : EA C es E M (ds.map .dat) M') (hz : ds.length ≤ 100000) : EV C (.Tuple es k pos) E M (.dat (.tup ds)) M' :=
  EV.mk (fun X hX => pe_tup (ua hX es)) fun I H adr σ Q s q => h I H adr σ _ s fun vs I1 H1 adr1 s1 g1 v1 =>
    ⟨by rw [← v1.to.length]; exact sz_of hz, fun p hp => let ⟨s2, g2, r2⟩ := s1.tup hp v1.to; q _ _ _ _ s2 (g1.trans g2) r2⟩
/-- a list display that never changes -/
theorem EV.lst {es : List Expr} {ds : List D} (h : EA C es E M (ds.map .dat) M') (hz : ds.length ≤ 100000) : EV C (.List es pos) E M (.dat (.lst ds)) M' :=
  EV.mk (fun X hX => pe_lst (ua hX es)) fun I H adr σ Q s q => h I H adr σ _ s fun vs I1 H1 adr1 s1 g1 v1 =>
    ⟨by rw [← v1.to.length]; exact sz_of hz, fun p hp => let ⟨s2, g2, r2⟩ := s1.lst hp v1.to; q _ _ _ _ s2 (g1.trans g2) r2⟩
/-- .. that is a cell -/
theorem EV.cel {es : List Expr} (h : EA C es E M os M') (hz : os.length ≤ 100000) : EV C (.List es pos) E M (.adr M'.length) (M' ++ [some os]) :=
  EV.mk (fun X hX => pe_lst (ua hX es)) fun I H adr σ Q s q => h I H adr σ _ s fun vs I1 H1 adr1 s1 g1 v1 =>
    ⟨by rw [← v1.length]; exact sz_of hz, fun p hp => let ⟨s2, g2, r2⟩ := s1.cel hp v1; q _ _ _ _ s2 (g1.trans g2) ⟨p, r2, rfl⟩⟩

/-! ### statements -/
theorem SB.nil : SB C [] E M (.nx E M) := SB.mk (fun _ _ => pss_nil) fun I H adr σ D s q => q I H adr σ s Grow.refl
theorem SB.cons {st : Stmt} {sts : List Stmt} {E1 : List O} (h : ST C st E M (.nx E1 M1)) (hr : SB C sts E1 M1 r) : SB C (st :: sts) E M r :=
  SB.mk (fun X hX => pss_cons (us hX st) (ub hX sts)) fun I H adr σ D s q =>
    h I H adr σ { D with nx := UB C sts D } s fun I1 H1 adr1 σ1 s1 g1 => hr I1 H1 adr1 σ1 D s1 (q.mono g1)
theorem pss_dead {X : Cx} {sts : List Stmt} : PSs X sts (fun _ _ _ => False) := ⟨fun _ _ _ _ _ _ h => h.elim⟩
theorem ps_dead {X : Cx} {st : Stmt} : PS X st (fun _ _ _ => False) := ⟨fun _ _ _ _ _ _ h => h.elim⟩
/-- a statement behind which nothing is done -/
def Out.ends : Out → Bool
  | .nx _ _ => false
  | _ => true
theorem SB.stop {st : Stmt} {sts : List Stmt} (h : ST C st E M r) (he : r.ends = true := by rfl) : SB C (st :: sts) E M r :=
  SB.mk (fun X hX => pss_cons (us hX st) pss_dead) fun I H adr σ D s q => h I H adr σ { D with nx := fun _ _ => False } s (by
    cases r with
    | nx _ _ => cases he
    | rt _ _ => exact q
    | bk _ _ => exact q
    | ct _ _ => exact q)
theorem SB.one {st : Stmt} (h : ST C st E M r) : SB C [st] E M r := SB.mk (fun X hX => pss_one (us hX st)) h
theorem ST.pass : ST C (.Pass pos) E M (.nx E M) := ST.mk (fun _ _ => ps_pass) fun I H adr σ D s q => q I H adr σ s Grow.refl
theorem ST.brk : ST C (.Break pos) E M (.bk E M) := ST.mk (fun _ _ => ps_break) fun I H adr σ D s q => q I H adr σ s Grow.refl
theorem ST.cont : ST C (.Continue pos) E M (.ct E M) := ST.mk (fun _ _ => ps_continue) fun I H adr σ D s q => q I H adr σ s Grow.refl
theorem ST.ret (h : EV C e E M o M') : ST C (.Return (some e) pos) E M (.rt o M') :=
  ST.mk (fun X hX => ps_ret (ue hX e)) fun I H adr σ D s q => h I H adr σ _ s fun v I1 H1 adr1 s1 g1 v1 => q v I1 H1 adr1 ⟨s1.ex, s1.sto, rfl, fun i o ov h _ => by simp at h⟩ g1 v1
theorem ST.retN : ST C (.Return none pos) E M (.rt (.dat .non) M) :=
  ST.mk (fun X hX => ps_retN) fun I H adr σ D s q => q .non I H adr ⟨s.ex, s.sto, rfl, fun i o ov h _ => by simp at h⟩ Grow.refl .non
theorem ST.ite {k : Bool} {ys ns : List Stmt} (hc : ET C c E M k M1) (h1 : k = true → SB C ys E M1 r) (h2 : k = false → SB C ns E M1 r) : ST C (.If c ys ns pos) E M r := by
  cases k with
  | true =>
    refine ST.mk (fun X hX => ps_if (ut hX c) (ub hX ys) pss_dead) fun I H adr σ D s q => ?_
    refine hc I H adr σ _ s fun I1 H1 adr1 s1 g1 => ?_
    show UB C ys D σ H1
    exact h1 rfl I1 H1 adr1 σ D s1 (q.mono g1)
  | false =>
    refine ST.mk (fun X hX => ps_if (ut hX c) pss_dead (ub hX ns)) fun I H adr σ D s q => ?_
    refine hc I H adr σ _ s fun I1 H1 adr1 s1 g1 => ?_
    show UB C ns D σ H1
    exact h2 rfl I1 H1 adr1 σ D s1 (q.mono g1)
theorem ST.yes {ys ns : List Stmt} (hc : ET C c E M true M1) (h1 : SB C ys E M1 r) : ST C (.If c ys ns pos) E M r := ST.ite hc (fun _ => h1) (fun z => nomatch z)
theorem ST.no {ys ns : List Stmt} (hc : ET C c E M false M1) (h1 : SB C ns E M1 r) : ST C (.If c ys ns pos) E M r := ST.ite hc (fun z => nomatch z) (fun _ => h1)
theorem ST.exp (h : EV C e E M o M') (hs : ∀ env, swapsWith e none pos.line env = pure false := by intro _; rfl) : ST C (.Expr e pos) E M (.nx E M') :=
  ST.mk (fun X hX => ps_expr (ue hX e) (hs X.env)) fun I H adr σ D s q => h I H adr σ _ s fun v I1 H1 adr1 s1 g1 v1 => q I1 H1 adr1 σ s1 g1
theorem ST.set (i : Nat) {x : Str} {p' : Pos} (h : EV C e E M o M') (nd : C.N.Nodup) (hi : C.N[i]? = some x := by rfl) (hx : Loc C.sc x := by first | exact Or.inl rfl | exact Or.inr rfl)
    (hs : ∀ env, swapsWith e (some (.Name x p')) pos.line env = pure false := by intro _; rfl) (hf : C.fn x = true ∨ C.sc.names.lookup x = some .local := by first | exact .inl rfl | exact .inr rfl) : ST C (.Assign [.Name x p'] e pos) E M (.nx (E.set i o) M') :=
  ST.mk (fun X hX => ps_set (by rw [hX.N]; exact nd) (by rw [hX.N]; exact hi) (by rw [hX.sc]; exact hx) (ue hX e) (hs X.env) (hf.elim (fun z => .inl (hX.fn x z)) (fun z => .inr (by rw [hX.sc]; exact z))))
    fun I H adr σ D s q => h I H adr σ _ s fun v I1 H1 adr1 s1 g1 v1 => q I1 H1 adr1 _ (s1.set v1) g1

end
end Ab
/-! Ab: defs and their calls. -/
namespace Ab
open PySem PySem.Spec PyProof.Rows L2

abbrev Rel := List O → Mem → O → Mem → Prop
def spR (R : Rel) : Sp := fun vs H Q _ => ∃ (I : Hp) (adr : List Addr) (os : List O) (M : Mem) (o : O) (M' : Mem), R os M o M' ∧ Ex I H ∧ Sto I H adr M ∧ Vs I adr os vs ∧
  ∀ v I' H' adr', Ex I' H' → Sto I' H' adr' M' → Grow I H adr I' H' adr' → Vo I' adr' o v → Q v H'
/-- the def named x keeps R -/
def FN (g : Pg) (x : Str) (k : Nat) (R : Rel) : Prop := ∃ (f : Addr) (fd : FuncData) (ps : List Str), FnOk g.P g.w g.K g.mg g.base CX0 k f fd ps (spR R) ∧ g.mg x = some (.ref f) ∧ PySem.W.keepIn g.K (.ref f) = true ∧ Binds g.K fd ps []
theorem FN.mono {g : Pg} {x : Str} {j k : Nat} {R : Rel} (F : FN g x j R) (h : j ≤ k) : FN g x k R := by
  obtain ⟨f, fd, ps, a, b⟩ := F
  exact ⟨f, fd, ps, a.mono h, b⟩
theorem FN.imp {g : Pg} {x : Str} {k : Nat} {R R' : Rel} (F : FN g x k R) (h : ∀ os M o M', R' os M o M' → R os M o M') : FN g x k R' := by
  obtain ⟨f, fd, ps, a, b⟩ := F
  refine ⟨f, fd, ps, a.imp fun vs H Q E z => ?_, b⟩
  obtain ⟨I, adr, os, M, o, M', r, q⟩ := z
  exact ⟨I, adr, os, M, o, M', h _ _ _ _ r, q⟩
abbrev mkC (g : Pg) (N : List Str) (st : Stmt) (k : Nat) : Cc := ⟨g, N, defScope st, fun _ => true, k⟩
def pad (N : List Str) (os : List O) : List O := os ++ List.replicate (N.length - os.length) .no
/-- what a def's text is, where it stands -/
structure TxtF (g : Pg) (x : Str) (st : Stmt) : Prop where
  fn : ∃ (f : Addr) (fd : FuncData), Fun g.K x x st f fd ∧ g.mg x = some (.ref f)
theorem FN.mk {g : Pg} {x : Str} {st : Stmt} {N ps : List Str} {k : Nat} {R : Rel} (T : TxtF g x st) (S : FnScope N ps (defScope st))
    (hb : ∀ (kV doc pm : Value) (an : Option Addr) (cdv ct : Value) (us : List Value), us.length = ps.length → bindArgs (PySem.W.fnOf x x (defArgs st) (defBody st) (defScope st) .none kV doc pm an cdv ct) ⟨us, []⟩ = pure (ps.zip us))
    (hl : ∀ os M o M', R os M o M' → os.length = ps.length) (body : ∀ os M o M', R os M o M' → SB (mkC g N st k) (defBody st) (pad N os) M (.rt o M')) : FN g x (k + 1) R := by
  obtain ⟨f, fd, F, hm⟩ := T.fn
  refine ⟨f, fd, ps, F.ok (N := N) S (fun vs H Q E h => ?_) (fun cdv A outer s H vs Q E hr h => ?_), hm, F.kp, F.binds hb⟩
  · obtain ⟨I, adr, os, M, o, M', r, _, _, v, _⟩ := h
    rw [← v.length]
    exact hl _ _ _ _ r
  · obtain ⟨I, adr, os, M, o, M', r, ex, sto, v, q⟩ := h
    refine ⟨UB (mkC g N st k) (defBody st), ub ⟨rfl, rfl, rfl, rfl, rfl, rfl, rfl, rfl, hr, rfl, fun _ _ => rfl⟩ _, ?_⟩
    refine body os M o M' r I H adr (L2.start N vs) _ ⟨ex, sto, ?_, fun i p ov h1 h2 => ?_⟩ fun w I' H' adr' s' g' v' => q w I' H' adr' s'.ex s'.sto g' v'
    · unfold pad L2.start
      rw [List.length_append, List.length_append, List.length_map, List.length_replicate, List.length_replicate, v.length]
    · unfold pad at h1
      unfold L2.start at h2
      by_cases hi : i < os.length
      · rw [List.getElem?_append_left hi] at h1
        obtain ⟨w, e1, e2⟩ := v.get h1
        rw [List.getElem?_append_left (by rw [List.length_map, ← v.length]; exact hi), List.getElem?_map, e1] at h2
        cases h2
        exact e2
      · rw [List.getElem?_append_right (Nat.le_of_not_lt hi)] at h1
        have hp : p = .no := List.eq_of_mem_replicate (List.mem_of_getElem? h1)
        subst hp
        cases ov with
        | none => rfl
        | some w => exact True.intro

/-! ### calls -/
def O.ren (ρ : Nat → Nat) : O → O
  | .no => .no
  | .dat d => .dat d
  | .adr k => .adr (ρ k)
  | .scr a u => .scr a u
theorem Vo.unren {I : Hp} {adr adr0 : List Addr} {ρ : Nat → Nat} (h : ∀ (k : Nat) (a : Addr), adr[ρ k]? = some a → adr0[k]? = some a) : ∀ {o : O} {v : V}, Vo I adr (o.ren ρ) v → Vo I adr0 o v
  | .no, _, _ => True.intro
  | .dat _, _, q => q
  | .adr _, _, q => by
    obtain ⟨a, h1, h2⟩ := q
    exact ⟨a, h _ a h1, h2⟩
  | .scr _ _, _, q => q
theorem Vo.doren {I : Hp} {adr adr0 : List Addr} {ρ : Nat → Nat} (h : ∀ (k : Nat) (a : Addr), adr0[k]? = some a → adr[ρ k]? = some a) : ∀ {o : O} {v : V}, Vo I adr0 o v → Vo I adr (o.ren ρ) v
  | .no, _, _ => True.intro
  | .dat _, _, q => q
  | .adr _, _, q => by
    obtain ⟨a, h1, h2⟩ := q
    exact ⟨a, h _ a h1, h2⟩
  | .scr _ _, _, q => q
theorem Vs.unren {I : Hp} {adr adr0 : List Addr} {ρ : Nat → Nat} (h : ∀ (k : Nat) (a : Addr), adr[ρ k]? = some a → adr0[k]? = some a) : ∀ {os : List O} {vs : List V}, Vs I adr (os.map (·.ren ρ)) vs → Vs I adr0 os vs
  | [], _, .nil => .nil
  | _ :: _, _, .cons q r => .cons (q.unren h) (Vs.unren h r)
theorem Vs.doren {I : Hp} {adr adr0 : List Addr} {ρ : Nat → Nat} (h : ∀ (k : Nat) (a : Addr), adr0[k]? = some a → adr[ρ k]? = some a) : ∀ {os : List O} {vs : List V}, Vs I adr0 os vs → Vs I adr (os.map (·.ren ρ)) vs
  | _, _, .nil => .nil
  | _, _, .cons q r => .cons (q.doren h) (Vs.doren h r)

/-- where the callee's cells lie: the lent ones at ι, new ones behind the caller's -/
def rho (ι : List Nat) (n : Nat) (k : Nat) : Nat := match ι[k]? with
  | some j => j
  | none => n + (k - ι.length)
/-- the caller's cells behind a call -/
structure Mix (ι : List Nat) (M1 M0 M0' M2 : Mem) : Prop where
  low : ι.length = M0.length
  nd : ι.Nodup
  len : M2.length = M1.length + (M0'.length - ι.length)
  lent : ∀ (i k : Nat), ι[i]? = some k → M1[k]? = (M0[i]?).map fun c => c.map fun os => os.map (·.ren (rho ι M1.length))
  back : ∀ (k : Nat) (os : List O), M2[k]? = some (some os) → (k ∉ ι ∧ M1[k]? = some (some os)) ∨ ∃ (i : Nat) (ps : List O), rho ι M1.length i = k ∧ (i < ι.length ∨ ι.length ≤ i) ∧ M0'[i]? = some (some ps) ∧ os = ps.map (·.ren (rho ι M1.length))

theorem ev_call {R : Rel} {E : List O} {M M1 M2 M0 M0' : Mem} {os os0 : List O} {o0 : O} {ta : TA} {E' : XK} {ι : List Nat} (ha : Ea ta E M os M1) (hR : R os0 M0 o0 M0') (ho : os = os0.map (·.ren (rho ι M1.length))) (mx : Mix ι M1 M0 M0' M2) :
    Ev (tCall (spR R) [] E' ta) E M (o0.ren (rho ι M1.length)) M2 := fun I H adr σ Q s q => ha I H adr σ _ s fun vs I1 H1 adr1 s1 g1 v1 => by
  subst ho
  have hin : ∀ (i k : Nat), ι[i]? = some k → k < M1.length := fun i k h => by
    have h2 := mx.lent i k h
    have hi : i < M0.length := by
      rw [← mx.low]
      exact (List.getElem?_eq_some_iff.mp h).1
    rw [List.getElem?_eq_getElem hi] at h2
    exact (List.getElem?_eq_some_iff.mp h2).1
  have hlen1 := s1.sto.len
  -- the callee's addresses
  let adr0 : List Addr := ι.map fun k => adr1.getD k 0
  have a0len : adr0.length = ι.length := List.length_map _
  have a0 : ∀ (i : Nat) (a : Addr), adr0[i]? = some a → ∃ k, ι[i]? = some k ∧ adr1[k]? = some a := fun i a h => by
    rw [List.getElem?_map] at h
    cases hk : ι[i]? with
    | none => rw [hk] at h; cases h
    | some k =>
      rw [hk] at h
      have hlt : k < adr1.length := by rw [hlen1]; exact hin i k hk
      refine ⟨k, rfl, ?_⟩
      rw [List.getElem?_eq_getElem hlt]
      have : adr1.getD k 0 = a := Option.some.inj h
      rw [List.getD_eq_getElem?_getD, List.getElem?_eq_getElem hlt] at this
      exact congrArg some this
  have a0' : ∀ (i k : Nat) (a : Addr), ι[i]? = some k → adr1[k]? = some a → adr0[i]? = some a := fun i k a h1 h2 => by
    rw [List.getElem?_map, h1]
    show some (adr1.getD k 0) = some a
    rw [List.getD_eq_getElem?_getD, h2]
    rfl
  have un0 : ∀ (k : Nat) (a : Addr), adr1[rho ι M1.length k]? = some a → adr0[k]? = some a := fun k a h => by
    unfold rho at h
    cases hk : ι[k]? with
    | some j =>
      rw [hk] at h
      exact a0' k j a hk h
    | none =>
      rw [hk] at h
      have := (List.getElem?_eq_some_iff.mp h).1
      simp only at this
      omega
  have sto0 : Sto I1 H1 adr0 M0 := by
    refine ⟨by rw [a0len]; exact mx.low, ?_, fun i a ps h1 h2 => ?_, fun i a h => ?_⟩
    · refine List.pairwise_map.mpr (List.Pairwise.imp_of_mem (fun {a b} ha hb hab e => ?_) mx.nd)
      obtain ⟨i, hi⟩ := List.getElem?_of_mem ha
      obtain ⟨j, hj⟩ := List.getElem?_of_mem hb
      have l1 : a < adr1.length := by rw [hlen1]; exact hin i a hi
      have l2 : b < adr1.length := by rw [hlen1]; exact hin j b hj
      have e1 : adr1[a]? = adr1[b]? := by
        rw [List.getD_eq_getElem?_getD, List.getD_eq_getElem?_getD, List.getElem?_eq_getElem l1, List.getElem?_eq_getElem l2] at e
        rw [List.getElem?_eq_getElem l1, List.getElem?_eq_getElem l2]
        exact congrArg some e
      exact hab ((List.getElem?_inj l1 s1.sto.nd).mp e1)
    · obtain ⟨k, hk, ha1⟩ := a0 i a h1
      have hm := mx.lent i k hk
      rw [h2] at hm
      obtain ⟨c1, xs, c2, c3⟩ := s1.sto.cell k a _ ha1 hm
      exact ⟨c1, xs, c2, c3.unren un0⟩
    · obtain ⟨k, hk, ha1⟩ := a0 i a h
      exact s1.sto.dom k a ha1
  show spR R (vs ++ []) H1 Q E'
  rw [List.append_nil]
  refine ⟨I1, adr0, os0, M0, o0, M0', hR, s1.ex, sto0, v1.unren un0, fun z I2 H2 adr0' ex2 sto2 g2 v2 => ?_⟩
  obtain ⟨nw, rfl, fr⟩ := g2.new
  have nwlen : nw.length = M0'.length - ι.length := by
    have := sto2.len
    rw [List.length_append, a0len] at this
    omega
  have m0len : ι.length ≤ M0'.length := by
    have := sto2.len
    rw [List.length_append, a0len] at this
    omega
  have do2 : ∀ (k : Nat) (a : Addr), (adr0 ++ nw)[k]? = some a → (adr1 ++ nw)[rho ι M1.length k]? = some a := fun k a h => by
    unfold rho
    by_cases hk : k < adr0.length
    · rw [List.getElem?_append_left hk] at h
      obtain ⟨j, p1, p2⟩ := a0 k a h
      rw [p1]
      show (adr1 ++ nw)[j]? = some a
      rw [List.getElem?_append_left (List.getElem?_eq_some_iff.mp p2).1]
      exact p2
    · rw [List.getElem?_append_right (Nat.le_of_not_lt hk)] at h
      rw [show ι[k]? = none from List.getElem?_eq_none (by rw [← a0len]; exact Nat.le_of_not_lt hk)]
      show (adr1 ++ nw)[M1.length + (k - ι.length)]? = some a
      rw [List.getElem?_append_right (by omega), ← a0len, hlen1]
      rw [show M1.length + (k - adr0.length) - M1.length = k - adr0.length by omega]
      exact h
  have nin0 : ∀ p, p ∉ adr1 → p ∉ adr0 := fun p h z => by
    obtain ⟨i, hi⟩ := List.getElem?_of_mem z
    obtain ⟨k, _, hk⟩ := a0 i p hi
    exact h (List.mem_of_getElem? hk)
  have g3 : Grow I1 H1 adr1 I2 H2 (adr1 ++ nw) := ⟨g2.ex, ⟨nw, rfl, fr⟩, fun p u h hp => g2.keep p u h (nin0 p hp), g2.dom, fun p u h h2 hp => g2.out p u h h2 (nin0 p hp)⟩
  have notin : ∀ (k : Nat) (a : Addr), k ∉ ι → adr1[k]? = some a → a ∉ adr0 := fun k a hk h z => by
    obtain ⟨i, hi⟩ := List.getElem?_of_mem z
    obtain ⟨j, h1, h2⟩ := a0 i a hi
    have : j = k := (List.getElem?_inj (List.getElem?_eq_some_iff.mp h2).1 s1.sto.nd).mp (h2.trans h.symm)
    subst this
    exact hk (List.mem_of_getElem? h1)
  have sto3 : Sto I2 H2 (adr1 ++ nw) M2 := by
    refine ⟨by rw [List.length_append, mx.len, hlen1, nwlen], ?_, fun k a ps h1 h2 => ?_, fun k a h => ?_⟩
    · rw [List.nodup_append]
      refine ⟨s1.sto.nd, (List.nodup_append.mp sto2.nd).2.1, fun a ha b hb e => ?_⟩
      subst e
      obtain ⟨k, hk⟩ := List.getElem?_of_mem ha
      obtain ⟨u, hu⟩ := s1.sto.dom k a hk
      rw [fr a hb] at hu
      cases hu
    · rcases mx.back k ps h2 with ⟨hk, hm⟩ | ⟨i, ps', hi, _, hm, rfl⟩
      · have hlt : k < adr1.length := by
          rw [hlen1]
          exact (List.getElem?_eq_some_iff.mp hm).1
        rw [List.getElem?_append_left hlt] at h1
        obtain ⟨c1, xs, c2, c3⟩ := s1.sto.cell k a ps h1 hm
        have na := notin k a hk h1
        exact ⟨g2.out a _ c2 c1 na, xs, g2.keep a _ c2 na, (c3.ext g2.ex).more⟩
      · have hi2 : i < (adr0 ++ nw).length := by
          rw [sto2.len]
          exact (List.getElem?_eq_some_iff.mp hm).1
        have e1 : (adr0 ++ nw)[i]? = some (adr0 ++ nw)[i] := List.getElem?_eq_getElem hi2
        have e2 := do2 i _ e1
        rw [hi, h1] at e2
        have e3 : a = (adr0 ++ nw)[i] := Option.some.inj e2
        obtain ⟨c1, xs, c2, c3⟩ := sto2.cell i _ ps' e1 hm
        exact ⟨by rw [e3]; exact c1, xs, by rw [e3]; exact c2, c3.doren do2⟩
    · by_cases hk : k < adr1.length
      · rw [List.getElem?_append_left hk] at h
        obtain ⟨u, hu⟩ := s1.sto.dom k a h
        exact g2.dom a u hu
      · rw [List.getElem?_append_right (Nat.le_of_not_lt hk)] at h
        refine sto2.dom (ι.length + (k - adr1.length)) a ?_
        rw [List.getElem?_append_right (by rw [a0len]; omega), a0len]
        rw [show ι.length + (k - adr1.length) - ι.length = k - adr1.length by omega]
        exact h
  exact q z I2 H2 (adr1 ++ nw) (s1.mono g3 ex2 sto3) (g1.trans g3) (v2.doren do2)
end Ab
/-! Ab: operators, subscripts, built-ins. -/
namespace Ab
open PySem PySem.Spec PyProof.Rows L2

/-- which built-in names the program's top leaves alone -/
def Bt (g : Pg) (x : Str) : Prop := g.mg x = none

def BS (C : Cc) (op : Operator) (o1 o2 : O) (M : Mem) (o : O) (M' : Mem) : Prop := ∃ r, (∀ X, CxIs C X → OpR X (binaryOp op) r) ∧ RO r o1 o2 M o M'
def CS (C : Cc) (op : CmpOp) (o1 o2 : O) (M : Mem) (o : O) (M' : Mem) : Prop := ∃ r, (∀ X, CxIs C X → OpR X (compareOp op) r) ∧ RO r o1 o2 M o M'
section
variable {C : Cc} {E : List O} {M M1 M2 M3 M' : Mem} {o o1 o2 o3 : O} {os : List O} {e a b c : Expr} {pos pos' p : Pos} {d d1 d2 : D} {i j : Int} {op : Operator} {cop cop' : CmpOp} {k k' : Bool}
theorem EV.bin (ha : EV C a E M o1 M1) (hb : EV C b E M1 o2 M2) (h : BS C op o1 o2 M2 o M') : EV C (.BinOp a op b pos) E M o M' := let ⟨_, h1, h2⟩ := h; EV.op ha hb h1 h2
theorem EV.cm (ha : EV C a E M o1 M1) (hb : EV C b E M1 o2 M2) (h : CS C cop o1 o2 M2 o M') (hm : behindInMarks cop b = false := by first | exact nomark _ | with_unfolding_all rfl) : EV C (.Compare a [cop] [b] pos) E M o M' := let ⟨_, h1, h2⟩ := h; EV.cmp ha hb h1 h2 hm
theorem ET.cm (ha : EV C a E M o1 M1) (hb : EV C b E M1 o2 M2) (h : CS C cop o1 o2 M2 (.dat (.bl k)) M') (hm : behindInMarks cop b = false := by first | exact nomark _ | with_unfolding_all rfl) : ET C (.Compare a [cop] [b] pos) E M k M' := let ⟨_, h1, h2⟩ := h; ET.cmp ha hb h1 h2 hm
/-- a op b op' c -/
theorem EV.chain {M4 : Mem} (ha : EV C a E M o1 M1) (hb : EV C b E M1 o2 M2) (h : CS C cop o1 o2 M2 (.dat (.bl k)) M2) (hc : k = true → EV C c E M2 o3 M3) (h' : k = true → CS C cop' o2 o3 M3 (.dat (.bl k')) M3) (h0 : k = false → M3 = M2)
    (hm : lastMarks [cop, cop'] [b, c] = false := by with_unfolding_all rfl) : EV C (.Compare a [cop, cop'] [b, c] pos) E M (.dat (.bl (k && k'))) M3 := by
  obtain ⟨r, r1, r2⟩ := h
  cases k with
  | true =>
    obtain ⟨r', r1', r2'⟩ := h' rfl
    refine EV.mk (fun X hX => pe_chain (r1 X hX) (r1' X hX) (ue hX a) (ue hX b) (ue hX c) hm) fun I H adr σ Q s q => ?_
    refine ha I H adr σ _ s fun v I1 H1 adr1 s1 g1 v1 => hb I1 H1 adr1 σ _ s1 fun w I2 H2 adr2 s2 g2 w2 => ?_
    refine r2 I2 H2 adr2 σ E v w _ s2 (v1.mono g2) w2 fun z I3 H3 adr3 s3 g3 z3 => ?_
    cases (show Rep I3 (.bl true) z from z3)
    refine ⟨true, rfl, ?_⟩
    show UE C c σ H3 _
    exact hc rfl I3 H3 adr3 σ _ s3 fun w' I4 H4 adr4 s4 g4 w4 => r2' I4 H4 adr4 σ E w w' Q s4 ((w2.mono g3).mono g4) w4 fun y I5 H5 adr5 s5 g5 y5 => q y I5 H5 adr5 s5 ((((g1.trans g2).trans g3).trans g4).trans g5) y5
  | false =>
    have e := h0 rfl
    subst e
    refine EV.mk (fun X hX => pe_chain (r' := fun _ _ _ _ => False) (r1 X hX) (fun _ _ _ _ _ _ _ _ _ _ _ _ h => h.elim) (ue hX a) (ue hX b) (ue hX c) hm) fun I H adr σ Q s q => ?_
    refine ha I H adr σ _ s fun v I1 H1 adr1 s1 g1 v1 => hb I1 H1 adr1 σ _ s1 fun w I2 H2 adr2 s2 g2 w2 => ?_
    refine r2 I2 H2 adr2 σ E v w _ s2 (v1.mono g2) w2 fun z I3 H3 adr3 s3 g3 z3 => ?_
    cases (show Rep I3 (.bl false) z from z3)
    refine ⟨false, rfl, ?_⟩
    show Q (.bl false) H3
    exact q _ I3 H3 adr3 s3 ((g1.trans g2).trans g3) (.bl false)
theorem ET.chain (ha : EV C a E M o1 M1) (hb : EV C b E M1 o2 M2) (h : CS C cop o1 o2 M2 (.dat (.bl k)) M2) (hc : k = true → EV C c E M2 o3 M3) (h' : k = true → CS C cop' o2 o3 M3 (.dat (.bl k')) M3) (h0 : k = false → M3 = M2)
    (hm : lastMarks [cop, cop'] [b, c] = false := by with_unfolding_all rfl) : ET C (.Compare a [cop, cop'] [b, c] pos) E M (k && k') M3 := by
  obtain ⟨r, r1, r2⟩ := h
  cases k with
  | true =>
    obtain ⟨r', r1', r2'⟩ := h' rfl
    refine ET.mk (fun X hX => pt_chain (r1 X hX) (r1' X hX) (ue hX a) (ue hX b) (ue hX c) hm) fun I H adr σ Q s q => ?_
    refine ha I H adr σ _ s fun v I1 H1 adr1 s1 g1 v1 => hb I1 H1 adr1 σ _ s1 fun w I2 H2 adr2 s2 g2 w2 => ?_
    refine r2 I2 H2 adr2 σ E v w _ s2 (v1.mono g2) w2 fun z I3 H3 adr3 s3 g3 z3 => ?_
    cases (show Rep I3 (.bl true) z from z3)
    refine ⟨true, rfl, ?_⟩
    show UE C c σ H3 _
    exact hc rfl I3 H3 adr3 σ _ s3 fun w' I4 H4 adr4 s4 g4 w4 => r2' I4 H4 adr4 σ E w w' _ s4 ((w2.mono g3).mono g4) w4 fun y I5 H5 adr5 s5 g5 y5 => by
      cases (show Rep I5 (.bl k') y from y5)
      exact ⟨k', rfl, q I5 H5 adr5 s5 ((((g1.trans g2).trans g3).trans g4).trans g5)⟩
  | false =>
    have e := h0 rfl
    subst e
    refine ET.mk (fun X hX => pt_chain (r' := fun _ _ _ _ => False) (r1 X hX) (fun _ _ _ _ _ _ _ _ _ _ _ _ h => h.elim) (ue hX a) (ue hX b) (ue hX c) hm) fun I H adr σ Q s q => ?_
    refine ha I H adr σ _ s fun v I1 H1 adr1 s1 g1 v1 => hb I1 H1 adr1 σ _ s1 fun w I2 H2 adr2 s2 g2 w2 => ?_
    refine r2 I2 H2 adr2 σ E v w _ s2 (v1.mono g2) w2 fun z I3 H3 adr3 s3 g3 z3 => ?_
    cases (show Rep I3 (.bl false) z from z3)
    refine ⟨false, rfl, ?_⟩
    show ∃ k, V.bl false = V.bl k ∧ Q k H3
    exact ⟨false, rfl, q I3 H3 adr3 s3 ((g1.trans g2).trans g3)⟩

/-! #### ints -/
theorem ro_I0 {g : Int → Int → V} (h : ∀ I, Rep I d (g i j)) : RO (rI0 g) (.dat (.int i)) (.dat (.int j)) M (.dat d) M := fun I H adr σ E v w Q s hv hw q => by
  cases (show Rep I (.int i) v from hv)
  cases (show Rep I (.int j) w from hw)
  exact ⟨i, j, rfl, rfl, q _ I H adr s Grow.refl (h I)⟩
theorem ro_I {g : Int → Int → V} {Cd : Int → Int → Prop} (hc : Cd i j) (h : ∀ I, Rep I d (g i j)) : RO (rI Cd g) (.dat (.int i)) (.dat (.int j)) M (.dat d) M := fun I H adr σ E v w Q s hv hw q => by
  cases (show Rep I (.int i) v from hv)
  cases (show Rep I (.int j) w from hw)
  exact ⟨i, j, rfl, rfl, hc, q _ I H adr s Grow.refl (h I)⟩
theorem op_mulX {X : Cx} : OpR X (binaryOp .Mult) (rI IntMulOk fun i j => .int (i * j)) := opI fun _ _ _ _ _ _ _ hc q => mul_int q hc
theorem BS.addI : BS C .Add (.dat (.int i)) (.dat (.int j)) M (.dat (.int (i + j))) M := ⟨_, fun X _ => op_add, ro_I0 fun _ => .int _⟩
theorem BS.subI : BS C .Sub (.dat (.int i)) (.dat (.int j)) M (.dat (.int (i - j))) M := ⟨_, fun X _ => op_sub, ro_I0 fun _ => .int _⟩
theorem BS.mulI (h : IntMulOk i j) : BS C .Mult (.dat (.int i)) (.dat (.int j)) M (.dat (.int (i * j))) M := ⟨_, fun X _ => op_mulX, ro_I h fun _ => .int _⟩
theorem BS.modI (h : 0 < j) : BS C .Mod (.dat (.int i)) (.dat (.int j)) M (.dat (.int (i % j))) M := ⟨_, fun X _ => op_mod, ro_I h fun _ => .int _⟩
theorem BS.divI (h : CDivW i j) : BS C .FloorDiv (.dat (.int i)) (.dat (.int j)) M (.dat (.int (i / j))) M := ⟨_, fun X _ => op_fdivW, ro_I h fun _ => .int _⟩
theorem BS.powI (h : CPow i j) : BS C .Pow (.dat (.int i)) (.dat (.int j)) M (.dat (.int (i ^ j.toNat))) M := ⟨_, fun X _ => op_pow, ro_I h fun _ => .int _⟩
theorem CS.ltI : CS C .Lt (.dat (.int i)) (.dat (.int j)) M (.dat (.bl (decide (i < j)))) M := ⟨_, fun X _ => op_lt, ro_I0 fun _ => .bl _⟩
theorem CS.leI : CS C .LtE (.dat (.int i)) (.dat (.int j)) M (.dat (.bl (decide (i ≤ j)))) M := ⟨_, fun X _ => op_le, ro_I0 fun _ => .bl _⟩
theorem CS.gtI : CS C .Gt (.dat (.int i)) (.dat (.int j)) M (.dat (.bl (decide (j < i)))) M := ⟨_, fun X _ => op_gt, ro_I0 fun _ => .bl _⟩
theorem CS.geI : CS C .GtE (.dat (.int i)) (.dat (.int j)) M (.dat (.bl (decide (j ≤ i)))) M := ⟨_, fun X _ => op_ge, ro_I0 fun _ => .bl _⟩
theorem EV.neg (h : EV C a E M (.dat (.int i)) M') : EV C (.UnaryOp .USub a pos) E M (.dat (.int (-i))) M' :=
  EV.mk (fun X hX => pe_un un_neg (ue hX a)) fun I H adr σ Q s q => h I H adr σ _ s fun v I1 H1 adr1 s1 g1 v1 => by
    cases (show Rep I1 (.int i) v from v1)
    exact ⟨i, rfl, q _ I1 H1 adr1 s1 g1 (.int _)⟩
/-! #### equality of scalars -/
theorem ro_eq {x y : V} {kk : Bool} (hx : ∀ I v, Rep I d1 v → v = x) (hy : ∀ I v, Rep I d2 v → v = y) (hs : scal x y = true) (hk : decide (x = y) = kk) : RO rEq (.dat d1) (.dat d2) M (.dat (.bl kk)) M := fun I H adr σ E v w Q s hv hw q => by
  cases hx I v hv
  cases hy I w hw
  exact ⟨hs, q _ I H adr s Grow.refl (by rw [hk]; exact .bl _)⟩
theorem ro_ne {x y : V} {kk : Bool} (hx : ∀ I v, Rep I d1 v → v = x) (hy : ∀ I v, Rep I d2 v → v = y) (hs : scal x y = true) (hk : (!decide (x = y)) = kk) : RO rNe (.dat d1) (.dat d2) M (.dat (.bl kk)) M := fun I H adr σ E v w Q s hv hw q => by
  cases hx I v hv
  cases hy I w hw
  exact ⟨hs, q _ I H adr s Grow.refl (by rw [hk]; exact .bl _)⟩
theorem rep_int {I : Hp} {v : V} (h : Rep I (.int i) v) : v = .int i := by cases h; rfl
theorem rep_bl {I : Hp} {v : V} (h : Rep I (.bl k) v) : v = .bl k := by cases h; rfl
theorem rep_str {I : Hp} {v : V} {x : Str} (h : Rep I (.str x) v) : v = .str x := by cases h; rfl
theorem rep_non {I : Hp} {v : V} (h : Rep I .non v) : v = .non := by cases h; rfl
theorem dec_i : decide (V.int i = V.int j) = decide (i = j) := by
  rw [Bool.eq_iff_iff]
  simp
theorem dec_b : decide (V.bl k = V.bl k') = decide (k = k') := by
  rw [Bool.eq_iff_iff]
  simp
theorem dec_s {x y : Str} : decide (V.str x = V.str y) = decide (x = y) := by
  rw [Bool.eq_iff_iff]
  simp
theorem CS.eqI : CS C .Eq (.dat (.int i)) (.dat (.int j)) M (.dat (.bl (decide (i = j)))) M := ⟨_, fun X _ => op_eq, ro_eq (fun _ _ => rep_int) (fun _ _ => rep_int) rfl dec_i⟩
theorem CS.neI : CS C .NotEq (.dat (.int i)) (.dat (.int j)) M (.dat (.bl (!decide (i = j)))) M := ⟨_, fun X _ => op_ne, ro_ne (fun _ _ => rep_int) (fun _ _ => rep_int) rfl (by rw [dec_i])⟩
theorem CS.eqB : CS C .Eq (.dat (.bl k)) (.dat (.bl k')) M (.dat (.bl (decide (k = k')))) M := ⟨_, fun X _ => op_eq, ro_eq (fun _ _ => rep_bl) (fun _ _ => rep_bl) rfl dec_b⟩
theorem CS.eqS {x y : Str} : CS C .Eq (.dat (.str x)) (.dat (.str y)) M (.dat (.bl (decide (x = y)))) M := ⟨_, fun X _ => op_eq, ro_eq (fun _ _ => rep_str) (fun _ _ => rep_str) rfl dec_s⟩
theorem CS.neS {x y : Str} : CS C .NotEq (.dat (.str x)) (.dat (.str y)) M (.dat (.bl (!decide (x = y)))) M := ⟨_, fun X _ => op_ne, ro_ne (fun _ _ => rep_str) (fun _ _ => rep_str) rfl (by rw [dec_s])⟩
/-! #### is None -/
def D.isN : D → Bool
  | .non => true
  | _ => false
theorem rep_isN {I : Hp} {v : V} (h : Rep I d v) : decide (v = .non) = d.isN := by
  cases h <;> rfl
theorem EV.isN {jj : Nat} (h : EV C a E M (.dat d) M') : EV C (.Compare a [.Is] [.Constant .none jj p] pos) E M (.dat (.bl d.isN)) M' :=
  EV.mk (fun X hX => pe_cmp (pc_isN (ue hX a))) fun I H adr σ Q s q => h I H adr σ _ s fun v I1 H1 adr1 s1 g1 v1 => q _ I1 H1 adr1 s1 g1 (by rw [rep_isN v1]; exact .bl _)
theorem EV.notN {jj : Nat} (h : EV C a E M (.dat d) M') : EV C (.Compare a [.IsNot] [.Constant .none jj p] pos) E M (.dat (.bl (!d.isN))) M' :=
  EV.mk (fun X hX => pe_cmp (pc_notN (ue hX a))) fun I H adr σ Q s q => h I H adr σ _ s fun v I1 H1 adr1 s1 g1 v1 => q _ I1 H1 adr1 s1 g1 (by rw [rep_isN v1]; exact .bl _)
theorem ET.isN {jj : Nat} (h : EV C a E M (.dat d) M') : ET C (.Compare a [.Is] [.Constant .none jj p] pos) E M d.isN M' :=
  ET.mk (fun X hX => pt_cmp (pc_isN (ue hX a))) fun I H adr σ Q s q => h I H adr σ _ s fun v I1 H1 adr1 s1 g1 v1 => ⟨_, rfl, by rw [rep_isN v1]; exact q I1 H1 adr1 s1 g1⟩
theorem ET.notN {jj : Nat} (h : EV C a E M (.dat d) M') : ET C (.Compare a [.IsNot] [.Constant .none jj p] pos) E M (!d.isN) M' :=
  ET.mk (fun X hX => pt_cmp (pc_notN (ue hX a))) fun I H adr σ Q s q => h I H adr σ _ s fun v I1 H1 adr1 s1 g1 v1 => ⟨_, rfl, by rw [rep_isN v1]; exact q I1 H1 adr1 s1 g1⟩

/-! #### texts, tuples, lists joined -/
theorem BS.addS {x y : Str} (h : x.length + y.length ≤ sizeLine) : BS C .Add (.dat (.str x)) (.dat (.str y)) M (.dat (.str (x ++ y))) M := ⟨_, fun X _ => op_add_str, fun I H adr σ E v w Q s hv hw q => by
  cases rep_str hv
  cases rep_str hw
  exact ⟨x, y, rfl, rfl, h, q _ I H adr s Grow.refl (.str _)⟩⟩
theorem BS.addT {ds es : List D} (h : ds.length + es.length ≤ 100000) : BS C .Add (.dat (.tup ds)) (.dat (.tup es)) M (.dat (.tup (ds ++ es))) M := ⟨rCatA C.g.K, fun X hX => by
  have := op_catA (X := X)
  rw [hX.K] at this
  exact this, fun I H adr σ E v w Q s hv hw q => by
  cases (show Rep I (.tup ds) v from hv) with
  | @tup a xs _ ha hr =>
    cases (show Rep I (.tup es) w from hw) with
    | @tup b ys _ hb hs =>
      have l1 := hr.length
      have l2 := hs.length
      refine ⟨a, b, xs, ys, rfl, rfl, .inl (.inl (s.ex _ _ ha)), .inl (.inl (s.ex _ _ hb)), by rw [← l1, ← l2]; exact sz_of h, fun e => ?_, fun _ e => ?_, fun _ _ p hp => ?_⟩
      · subst e
        cases hr
        exact q _ I H adr s Grow.refl hw
      · subst e
        cases hs
        rw [List.append_nil] at q
        exact q _ I H adr s Grow.refl hv
      · obtain ⟨s2, g2, r2⟩ := s.tup hp (hr.append hs)
        exact q _ _ _ _ s2 g2 r2⟩
theorem BS.addL {ds es : List D} (h : ds.length + es.length ≤ 100000) : BS C .Add (.dat (.lst ds)) (.dat (.lst es)) M (.dat (.lst (ds ++ es))) M := ⟨rCat, fun X hX => op_cat, fun I H adr σ E v w Q s hv hw q => by
  cases (show Rep I (.lst ds) v from hv) with
  | @lst a xs _ ha hr =>
    cases (show Rep I (.lst es) w from hw) with
    | @lst b ys _ hb hs =>
      have l1 := hr.length
      have l2 := hs.length
      refine ⟨a, b, xs, ys, rfl, rfl, s.ex _ _ ha, s.ex _ _ hb, by rw [← l1, ← l2]; exact sz_of h, fun p hp => ?_⟩
      obtain ⟨s2, g2, r2⟩ := s.lst hp (hr.append hs)
      exact q _ _ _ _ s2 g2 r2⟩
theorem BS.mulT {ds : List D} (h0 : ds ≠ []) (h1 : 2 ≤ i) (h2 : i ≤ 1000) (h3 : ds.length ≤ 1000) : BS C .Mult (.dat (.tup ds)) (.dat (.int i)) M (.dat (.tup (List.replicate i.toNat ds).flatten)) M := ⟨rRepT C.g.K, fun X hX => by
  have := op_repT (X := X)
  rw [hX.K] at this
  exact this, fun I H adr σ E v w Q s hv hw q => by
  cases rep_int hw
  cases (show Rep I (.tup ds) v from hv) with
  | @tup a xs _ ha hr =>
    have l1 := hr.length
    refine ⟨a, i, xs, rfl, rfl, .inl (.inl (s.ex _ _ ha)), fun e => ?_, h1, h2, by rw [← l1]; exact h3, fun p hp => ?_⟩
    · subst e
      cases hr
      exact h0 rfl
    · obtain ⟨s2, g2, r2⟩ := s.tup hp (hr.rep i.toNat)
      exact q _ _ _ _ s2 g2 r2⟩
theorem BS.mulL {ds : List D} (h0 : 0 ≤ i) (h2 : i ≤ 1000) (h3 : ds.length ≤ 100) : BS C .Mult (.dat (.lst ds)) (.dat (.int i)) M (.dat (.lst (List.replicate i.toNat ds).flatten)) M := ⟨rRep, fun X hX => op_rep, fun I H adr σ E v w Q s hv hw q => by
  cases rep_int hw
  cases (show Rep I (.lst ds) v from hv) with
  | @lst a xs _ ha hr =>
    have l1 := hr.length
    refine ⟨a, i, xs, rfl, rfl, s.ex _ _ ha, by omega, by omega, ?_, fun p hp => ?_⟩
    · have : xs.length * i.toNat ≤ 100 * 1000 := Nat.mul_le_mul (by omega) (by omega)
      exact sz_of (by omega)
    · obtain ⟨s2, g2, r2⟩ := s.lst hp (hr.rep i.toNat)
      exact q _ _ _ _ s2 g2 r2⟩

/-! #### subscripts -/
def ixD : D → Int → Option D
  | .tup ds, i => atI ds i
  | .lst ds, i => atI ds i
  | _, _ => none
theorem reps_atI {I : Hp} {ds : List D} {xs : List V} (r : Reps I ds xs) {i : Int} {d : D} (h : atI ds i = some d) : ∃ v, atI xs i = some v ∧ Rep I d v := by
  unfold atI at h ⊢
  rw [← r.length]
  cases q : ixN ds.length i with
  | none => rw [q] at h; cases h
  | some j =>
    rw [q] at h
    exact r.get h
theorem vs_atI {I : Hp} {adr : List Addr} {ps : List O} {xs : List V} (r : Vs I adr ps xs) {i : Int} {o : O} (h : atI ps i = some o) : ∃ v, atI xs i = some v ∧ Vo I adr o v := by
  unfold atI at h ⊢
  rw [← r.length]
  cases q : ixN ps.length i with
  | none => rw [q] at h; cases h
  | some j =>
    rw [q] at h
    exact r.get h
theorem EV.ix (ha : EV C a E M (.dat d1) M1) (hb : EV C b E M1 (.dat (.int i)) M') (h : ixD d1 i = some d) (hs : PlainIx b := by exact fun _ _ => rfl) : EV C (.Subscript a b pos) E M (.dat d) M' :=
  EV.mk (t := tOp (rIx C.g.K) (UE C a) (UE C b)) (fun X hX => by
    have := pe_ix (pos := pos) ix_seq (ue hX a) (ue hX b) hs
    rw [hX.K] at this
    exact this) (ev_op ha hb fun I H adr σ E v w Q s hv hw q => by
      cases rep_int hw
      cases (show Rep I d1 v from hv) with
      | @tup p xs ds hp hr =>
        obtain ⟨x, e1, e2⟩ := reps_atI hr h
        exact .inr (.inl ⟨p, xs, i, x, rfl, rfl, .inl (.inl (s.ex _ _ hp)), e1, q x I H adr s Grow.refl e2⟩)
      | @lst p xs ds hp hr =>
        obtain ⟨x, e1, e2⟩ := reps_atI hr h
        exact .inl ⟨p, xs, i, x, rfl, rfl, .inl (.inl (s.ex _ _ hp)), e1, q x I H adr s Grow.refl e2⟩
      | _ => cases h)
theorem EV.ixC {n : Nat} {ps : List O} (ha : EV C a E M (.adr n) M1) (hb : EV C b E M1 (.dat (.int i)) M') (hm : M'[n]? = some (some ps)) (h : atI ps i = some o) (hs : PlainIx b := by exact fun _ _ => rfl) : EV C (.Subscript a b pos) E M o M' :=
  EV.mk (t := tOp (rIx C.g.K) (UE C a) (UE C b)) (fun X hX => by
    have := pe_ix (pos := pos) ix_seq (ue hX a) (ue hX b) hs
    rw [hX.K] at this
    exact this) (ev_op ha hb fun I H adr σ E v w Q s hv hw q => by
      cases rep_int hw
      obtain ⟨p, hp, rfl⟩ := hv
      obtain ⟨_, xs, h2, h3⟩ := s.sto.cell n p ps hp hm
      obtain ⟨x, e1, e2⟩ := vs_atI h3 h
      exact .inl ⟨p, xs, i, x, rfl, rfl, .inl (.inl h2), e1, q x I H adr s Grow.refl e2⟩)
/-- parts of a slice -/
def UO (C : Cc) (e : Option Expr) : TO := fun σ H Q => ∃ t : TO, (∀ X, CxIs C X → PO X e t) ∧ t σ H Q
theorem uo {C : Cc} {X : Cx} (h : CxIs C X) (e : Option Expr) : PO X e (UO C e) := ⟨fun pins s σ H Q I q => let ⟨_, p, q⟩ := q; (p X h).run pins s σ H Q I q⟩
def EO (C : Cc) (e : Option Expr) (E : List O) (M : Mem) (o : Option Int) (M' : Mem) : Prop :=
  ∀ (I H : Hp) (adr : List Addr) (σ : L2.St) (Q : Option Int → Hp → Prop), Stt I H adr σ E M → (∀ I' H' adr', Stt I' H' adr' σ E M' → Grow I H adr I' H' adr' → Q o H') → UO C e σ H Q
theorem EO.none : EO C none E M none M := fun I H adr σ Q s q => ⟨tNoPart, fun _ _ => po_none, q I H adr s Grow.refl⟩
theorem EO.some (h : EV C a E M (.dat (.int i)) M') : EO C (some a) E M (some i) M' := fun I H adr σ Q s q => ⟨tPart (UE C a), fun X hX => po_some (ue hX a), h I H adr σ _ s fun v I1 H1 adr1 s1 g1 v1 => by
  cases rep_int v1
  exact ⟨i, rfl, q I1 H1 adr1 s1 g1⟩⟩
def cutD {α : Type} (ds : List α) (lo hi : Option Int) : List α := (ds.drop (HT.sIx ds.length 0 lo)).take (HT.sIx ds.length ds.length hi - HT.sIx ds.length 0 lo)
theorem reps_cut {I : Hp} {ds : List D} {xs : List V} (r : Reps I ds xs) (lo hi : Option Int) : Reps I (cutD ds lo hi) (cutV xs lo hi) := by
  unfold cutD cutV
  rw [r.length]
  exact (r.drop _).take _
theorem vs_cut {I : Hp} {adr : List Addr} {ps : List O} {xs : List V} (r : Vs I adr ps xs) (lo hi : Option Int) : Vs I adr (cutD ps lo hi) (cutV xs lo hi) := by
  unfold cutD cutV
  rw [r.length]
  exact (r.drop _).take _
theorem cutD_all {α : Type} {ds : List α} {lo hi : Option Int} (h1 : HT.sIx ds.length 0 lo = 0) (h2 : HT.sIx ds.length ds.length hi = ds.length) : cutD ds lo hi = ds := by
  unfold cutD
  rw [h1, h2, List.drop_zero, Nat.sub_zero, List.take_length]
theorem EV.slT {ds : List D} {lo hi : Option Expr} {l u : Option Int} (ha : EV C a E M (.dat (.tup ds)) M1) (hl : EO C lo E M1 l M2) (hh : EO C hi E M2 u M') : EV C (.Subscript a (.Slice lo hi none p) pos) E M (.dat (.tup (cutD ds l u))) M' :=
  EV.mk (t := tSl (rSlA C.g.K) (UE C a) (UO C lo) (UO C hi)) (fun X hX => by
    have := pe_slice (p2 := p) (pos := pos) (sl_tupA (X := X)) (ue hX a) (uo hX lo) (uo hX hi)
    rw [hX.K] at this
    exact this) fun I H adr σ Q s q => ha I H adr σ _ s fun v I1 H1 adr1 s1 g1 v1 => hl I1 H1 adr1 σ _ s1 fun I2 H2 adr2 s2 g2 => hh I2 H2 adr2 σ _ s2 fun I3 H3 adr3 s3 g3 => by
      have v3 := (v1.mono g2).mono g3
      cases (show Rep I3 (.tup ds) v from v3) with
      | @tup b xs _ hb hr =>
        have l1 := hr.length
        refine ⟨b, xs, rfl, .inl (.inl (s3.ex _ _ hb)), fun hw => ?_, fun _ p hp => ?_⟩
        · rw [← l1] at hw
          rw [cutD_all hw.1 hw.2] at q
          exact q _ I3 H3 adr3 s3 ((g1.trans g2).trans g3) v3
        · obtain ⟨s4, g4, r4⟩ := s3.tup hp (reps_cut hr l u)
          exact q _ _ _ _ s4 (((g1.trans g2).trans g3).trans g4) r4
theorem EV.slL {ds : List D} {lo hi : Option Expr} {l u : Option Int} (ha : EV C a E M (.dat (.lst ds)) M1) (hl : EO C lo E M1 l M2) (hh : EO C hi E M2 u M') : EV C (.Subscript a (.Slice lo hi none p) pos) E M (.dat (.lst (cutD ds l u))) M' :=
  EV.mk (t := tSl (rSlL C.g.K) (UE C a) (UO C lo) (UO C hi)) (fun X hX => by
    have := pe_slice (p2 := p) (pos := pos) (sl_list (X := X)) (ue hX a) (uo hX lo) (uo hX hi)
    rw [hX.K] at this
    exact this) fun I H adr σ Q s q => ha I H adr σ _ s fun v I1 H1 adr1 s1 g1 v1 => hl I1 H1 adr1 σ _ s1 fun I2 H2 adr2 s2 g2 => hh I2 H2 adr2 σ _ s2 fun I3 H3 adr3 s3 g3 => by
      have v3 := (v1.mono g2).mono g3
      cases (show Rep I3 (.lst ds) v from v3) with
      | @lst b xs _ hb hr =>
        refine ⟨b, xs, rfl, .inl (.inl (s3.ex _ _ hb)), fun p hp => ?_⟩
        obtain ⟨s4, g4, r4⟩ := s3.lst hp (reps_cut hr l u)
        exact q _ _ _ _ s4 (((g1.trans g2).trans g3).trans g4) r4
/-- a slice of a cell of data -/
theorem EV.slC {n : Nat} {ds : List D} {lo hi : Option Expr} {l u : Option Int} (ha : EV C a E M (.adr n) M1) (hl : EO C lo E M1 l M2) (hh : EO C hi E M2 u M') (hm : M'[n]? = some (some (ds.map .dat))) : EV C (.Subscript a (.Slice lo hi none p) pos) E M (.dat (.lst (cutD ds l u))) M' :=
  EV.mk (t := tSl (rSlL C.g.K) (UE C a) (UO C lo) (UO C hi)) (fun X hX => by
    have := pe_slice (p2 := p) (pos := pos) (sl_list (X := X)) (ue hX a) (uo hX lo) (uo hX hi)
    rw [hX.K] at this
    exact this) fun I H adr σ Q s q => ha I H adr σ _ s fun v I1 H1 adr1 s1 g1 v1 => hl I1 H1 adr1 σ _ s1 fun I2 H2 adr2 s2 g2 => hh I2 H2 adr2 σ _ s2 fun I3 H3 adr3 s3 g3 => by
      obtain ⟨b, hb, rfl⟩ := (v1.mono g2).mono g3
      obtain ⟨_, xs, h2, h3⟩ := s3.sto.cell n b _ hb hm
      refine ⟨b, xs, rfl, .inl (.inl h2), fun p hp => ?_⟩
      obtain ⟨s4, g4, r4⟩ := s3.lst hp (reps_cut h3.to l u)
      exact q _ _ _ _ s4 (((g1.trans g2).trans g3).trans g4) r4

/-! #### calls of built-ins -/
def RK (r : List V → Hp → VK → Prop) (os : List O) (M : Mem) (o : O) (M' : Mem) : Prop :=
  ∀ (I H : Hp) (adr : List Addr) (σ : L2.St) (E : List O) (vs : List V) (Q : VK), Stt I H adr σ E M → Vs I adr os vs → (∀ z I' H' adr', Stt I' H' adr' σ E M' → Grow I H adr I' H' adr' → Vo I' adr' o z → Q z H') → r vs H Q
def KS (C : Cc) (f : Value) (os : List O) (M : Mem) (o : O) (M' : Mem) : Prop := ∃ r, (∀ X, CxIs C X → CallR X f r) ∧ RK r os M o M'
theorem ev_cb {r : List V → Hp → VK → Prop} {ta : TA} (ha : Ea ta E M os M1) (hr : RK r os M1 o M') : Ev (tCB r ta) E M o M' := fun I H adr σ Q s q =>
  ha I H adr σ _ s fun vs I1 H1 adr1 s1 g1 v1 => hr I1 H1 adr1 σ E vs Q s1 v1 fun z I2 H2 adr2 s2 g2 z2 => q z I2 H2 adr2 s2 (g1.trans g2) z2
theorem EV.cb {id : String} {x : Str} {es : List Expr} (S : KS C (.builtin id) os M1 o M') (ha : EA C (e :: es) E M os M1) (hm : Bt C.g x) (hv : bootBuiltins x = some (.builtin id)) (hg : C.sc.names.lookup x = some .globalImplicit := by rfl) (hn : x ≠ "__name__" := by decide) (hdb : (x == ("__debug__" : Str)) = false := by decide)
    (he : ∀ env, starEach (e :: es) env = (false, eval e env) :: starEach es env := by intro _; rfl) (hpl : ∀ env, (backTo pos (starEach es env)).any (·.1) = false := by intro _; rfl) : EV C (.Call (.Name x p) (e :: es) [] pos) E M o M' := by
  obtain ⟨r, h1, h2⟩ := S
  exact EV.mk (fun X hX => pe_callB (h1 X hX) (by show X.env.scope.names.lookup x = _; rw [hX.sc]; exact hg) (by rw [hX.mg]; exact hm) hv (ua hX _) hn hdb (he X.env) (hpl X.env)) (ev_cb ha h2)
theorem EV.cty {T : String} {x : Str} {es : List Expr} (S : KS C (.type T) os M1 o M') (ha : EA C (e :: es) E M os M1) (hm : Bt C.g x) (hv : bootBuiltins x = some (.type T)) (hg : C.sc.names.lookup x = some .globalImplicit := by rfl) (hn : x ≠ "__name__" := by decide) (hdb : (x == ("__debug__" : Str)) = false := by decide)
    (he : ∀ env, starEach (e :: es) env = (false, eval e env) :: starEach es env := by intro _; rfl) (hpl : ∀ env, (backTo pos (starEach es env)).any (·.1) = false := by intro _; rfl) : EV C (.Call (.Name x p) (e :: es) [] pos) E M o M' := by
  obtain ⟨r, h1, h2⟩ := S
  exact EV.mk (fun X hX => pe_callTy (h1 X hX) (by show X.env.scope.names.lookup x = _; rw [hX.sc]; exact hg) (by rw [hX.mg]; exact hm) hv (ua hX _) hn hdb (he X.env) (hpl X.env)) (ev_cb ha h2)
theorem vsOne {I : Hp} {adr : List Addr} {vs : List V} (h : Vs I adr [o] vs) : ∃ v, vs = [v] ∧ Vo I adr o v := by
  cases h with
  | cons h r =>
    cases r
    exact ⟨_, rfl, h⟩
theorem vsTwo {I : Hp} {adr : List Addr} {vs : List V} (h : Vs I adr [o1, o2] vs) : ∃ v w, vs = [v, w] ∧ Vo I adr o1 v ∧ Vo I adr o2 w := by
  cases h with
  | cons h r =>
    obtain ⟨w, rfl, hw⟩ := vsOne r
    exact ⟨_, w, rfl, h, hw⟩
def lenD : D → Option Nat
  | .tup ds => some ds.length
  | .lst ds => some ds.length
  | _ => none
theorem KS.len {n : Nat} (h : lenD d = some n) : KS C (.builtin "len") [.dat d] M (.dat (.int (n : Int))) M := ⟨_, fun X hX => by
  have := call_len_seq (X := X)
  rw [hX.K] at this
  exact this, fun I H adr σ E vs Q s hv q => by
  obtain ⟨v, ev, hz⟩ := vsOne hv
  subst ev
  have hv := hz
  cases (show Rep I d v from hv) with
  | @tup p xs ds hp hr =>
    cases h
    refine ⟨p, xs, rfl, .inr (.inl (.inl (s.ex _ _ hp))), q _ I H adr s Grow.refl ?_⟩
    rw [hr.length]
    exact .int _
  | @lst p xs ds hp hr =>
    cases h
    refine ⟨p, xs, rfl, .inl (.inl (.inl (s.ex _ _ hp))), q _ I H adr s Grow.refl ?_⟩
    rw [hr.length]
    exact .int _
  | _ => cases h⟩
theorem KS.lenC {n : Nat} {ps : List O} (h : M[n]? = some (some ps)) : KS C (.builtin "len") [.adr n] M (.dat (.int (ps.length : Int))) M := ⟨_, fun X hX => by
  have := call_len_seq (X := X)
  rw [hX.K] at this
  exact this, fun I H adr σ E vs Q s hv q => by
  obtain ⟨v, ev, hz⟩ := vsOne hv
  subst ev
  have hv := hz
  obtain ⟨p, hp, rfl⟩ := hv
  obtain ⟨_, xs, h2, h3⟩ := s.sto.cell n p ps hp h
  refine ⟨p, xs, rfl, .inl (.inl (.inl h2)), q _ I H adr s Grow.refl ?_⟩
  rw [h3.length]
  exact .int _⟩
theorem reps_bl {I : Hp} : ∀ {bs : List Bool} {xs : List V}, Reps I (bs.map .bl) xs → xs = bs.map V.bl
  | [], _, .nil => rfl
  | b :: bs, _, .cons h r => by
    cases h
    rw [reps_bl r]
    rfl
theorem reps_int {I : Hp} : ∀ {ns : List Int} {xs : List V}, Reps I (ns.map .int) xs → xs = ns.map V.int
  | [], _, .nil => rfl
  | n :: ns, _, .cons h r => by
    cases h
    rw [reps_int r]
    rfl
theorem KS.sum {ns : List Int} : KS C (.builtin "sum") [.dat (.lst (ns.map .int))] M (.dat (.int ns.sum)) M := ⟨_, fun X hX => by
  have := cr_sum (X := X) hX.calm
  rw [hX.K] at this
  exact this, fun I H adr σ E vs Q s hv q => by
  obtain ⟨v, ev, hz⟩ := vsOne hv
  subst ev
  have hv := hz
  cases (show Rep I (.lst (ns.map .int)) v from hv) with
  | @lst p xs ds hp hr =>
    have e := reps_int hr
    subst e
    exact ⟨p, ns, rfl, .inl (.inl (s.ex _ _ hp)), q _ I H adr s Grow.refl (.int _)⟩⟩
theorem KS.all {bs : List Bool} : KS C (.builtin "all") [.dat (.lst (bs.map .bl))] M (.dat (.bl (bs.all id))) M := ⟨_, fun X hX => by
  have := cr_all (X := X) hX.calm
  rw [hX.K] at this
  exact this, fun I H adr σ E vs Q s hv q => by
  obtain ⟨v, ev, hz⟩ := vsOne hv
  subst ev
  have hv := hz
  cases (show Rep I (.lst (bs.map .bl)) v from hv) with
  | @lst p xs ds hp hr =>
    have e := reps_bl hr
    subst e
    exact ⟨p, bs, rfl, .inl (.inl (s.ex _ _ hp)), q _ I H adr s Grow.refl (.bl _)⟩⟩
theorem KS.any {bs : List Bool} : KS C (.builtin "any") [.dat (.lst (bs.map .bl))] M (.dat (.bl (bs.any id))) M := ⟨_, fun X hX => by
  have := cr_any (X := X) hX.calm
  rw [hX.K] at this
  exact this, fun I H adr σ E vs Q s hv q => by
  obtain ⟨v, ev, hz⟩ := vsOne hv
  subst ev
  have hv := hz
  cases (show Rep I (.lst (bs.map .bl)) v from hv) with
  | @lst p xs ds hp hr =>
    have e := reps_bl hr
    subst e
    exact ⟨p, bs, rfl, .inl (.inl (s.ex _ _ hp)), q _ I H adr s Grow.refl (.bl _)⟩⟩
theorem KS.minL {ns : List Int} {m : Int} (h : m ∈ ns) (hm : ∀ y ∈ ns, m ≤ y) : KS C (.builtin "min") [.dat (.lst (ns.map .int))] M (.dat (.int m)) M := ⟨_, fun X hX => by
  have := cr_min (X := X) hX.calm
  rw [hX.K] at this
  exact this, fun I H adr σ E vs Q s hv q => by
  obtain ⟨v, ev, hz⟩ := vsOne hv
  subst ev
  have hv := hz
  cases (show Rep I (.lst (ns.map .int)) v from hv) with
  | @lst p xs ds hp hr =>
    have e := reps_int hr
    subst e
    refine ⟨p, ns, rfl, .inl (.inl (s.ex _ _ hp)), List.length_pos_of_mem h, fun m' h1 h2 => ?_⟩
    have : m' = m := Int.le_antisymm (h2 m h) (hm m' h1)
    subst this
    exact q _ I H adr s Grow.refl (.int _)⟩
theorem KS.maxL {ns : List Int} {m : Int} (h : m ∈ ns) (hm : ∀ y ∈ ns, y ≤ m) : KS C (.builtin "max") [.dat (.lst (ns.map .int))] M (.dat (.int m)) M := ⟨_, fun X hX => by
  have := cr_max (X := X) hX.calm
  rw [hX.K] at this
  exact this, fun I H adr σ E vs Q s hv q => by
  obtain ⟨v, ev, hz⟩ := vsOne hv
  subst ev
  have hv := hz
  cases (show Rep I (.lst (ns.map .int)) v from hv) with
  | @lst p xs ds hp hr =>
    have e := reps_int hr
    subst e
    refine ⟨p, ns, rfl, .inl (.inl (s.ex _ _ hp)), List.length_pos_of_mem h, fun m' h1 h2 => ?_⟩
    have : m' = m := Int.le_antisymm (hm m' h1) (h2 m h)
    subst this
    exact q _ I H adr s Grow.refl (.int _)⟩
theorem KS.max2 : KS C (.builtin "max") [.dat (.int i), .dat (.int j)] M (.dat (.int (if j > i then j else i))) M := ⟨_, fun X hX => call_max2 hX.calm, fun I H adr σ E vs Q s hv q => by
  obtain ⟨v, w, ev, hz, hw⟩ := vsTwo hv
  subst ev
  have hv := hz
  cases rep_int hv
  cases rep_int hw
  exact ⟨i, j, rfl, q _ I H adr s Grow.refl (.int _)⟩⟩
theorem KS.abs : KS C (.builtin "abs") [.dat (.int i)] M (.dat (.int (i.natAbs : Int))) M := ⟨_, fun X hX => call_abs, fun I H adr σ E vs Q s hv q => by
  obtain ⟨v, ev, hz⟩ := vsOne hv
  subst ev
  have hv := hz
  cases rep_int hv
  refine ⟨i, rfl, q _ I H adr s Grow.refl ?_⟩
  have : (if i < 0 then -i else i) = (i.natAbs : Int) := by split <;> omega
  rw [this]
  exact .int _⟩
theorem KS.intI : KS C (.type "int") [.dat (.int i)] M (.dat (.int i)) M := ⟨_, fun X hX => call_int1, fun I H adr σ E vs Q s hv q => by
  obtain ⟨v, ev, hz⟩ := vsOne hv
  subst ev
  have hv := hz
  cases rep_int hv
  exact .inl ⟨i, rfl, q _ I H adr s Grow.refl (.int _)⟩⟩
theorem KS.intB : KS C (.type "int") [.dat (.bl k)] M (.dat (.int (if k then 1 else 0))) M := ⟨_, fun X hX => call_int1, fun I H adr σ E vs Q s hv q => by
  obtain ⟨v, ev, hz⟩ := vsOne hv
  subst ev
  have hv := hz
  cases rep_bl hv
  exact .inr ⟨k, rfl, q _ I H adr s Grow.refl (.int _)⟩⟩
def seqD : D → Option (List D)
  | .tup ds => some ds
  | .lst ds => some ds
  | _ => none
theorem KS.tuple {ds : List D} (h : seqD d = some ds) : KS C (.type "tuple") [.dat d] M (.dat (.tup ds)) M := ⟨_, fun X hX => by
  have := call_tuple_of (X := X)
  rw [hX.K] at this
  exact this, fun I H adr σ E vs Q s hv q => by
  obtain ⟨v, ev, hz⟩ := vsOne hv
  subst ev
  have hv := hz
  cases (show Rep I d v from hv) with
  | @tup p xs ds hp hr =>
    cases h
    exact ⟨p, xs, rfl, .inr ⟨.inl (.inl (s.ex _ _ hp)), q _ I H adr s Grow.refl hv⟩⟩
  | @lst p xs ds hp hr =>
    cases h
    refine ⟨p, xs, rfl, .inl ⟨.inl (.inl (s.ex _ _ hp)), fun l hl => ?_⟩⟩
    obtain ⟨s2, g2, r2⟩ := s.tup hl hr
    exact q _ _ _ _ s2 g2 r2
  | _ => cases h⟩
theorem KS.tupleC {n : Nat} {ds : List D} (h : M[n]? = some (some (ds.map .dat))) : KS C (.type "tuple") [.adr n] M (.dat (.tup ds)) M := ⟨_, fun X hX => by
  have := call_tuple_of (X := X)
  rw [hX.K] at this
  exact this, fun I H adr σ E vs Q s hv q => by
  obtain ⟨v, ev, hz⟩ := vsOne hv
  subst ev
  have hv := hz
  obtain ⟨p, hp, rfl⟩ := hv
  obtain ⟨_, xs, h2, h3⟩ := s.sto.cell n p _ hp h
  refine ⟨p, xs, rfl, .inl ⟨.inl (.inl h2), fun l hl => ?_⟩⟩
  obtain ⟨s2, g2, r2⟩ := s.tup hl h3.to
  exact q _ _ _ _ s2 g2 r2⟩
theorem KS.list {ds : List D} (h : seqD d = some ds) : KS C (.type "list") [.dat d] M (.dat (.lst ds)) M := ⟨_, fun X hX => by
  have := call_list_of (X := X)
  rw [hX.K] at this
  exact this, fun I H adr σ E vs Q s hv q => by
  obtain ⟨v, ev, hz⟩ := vsOne hv
  subst ev
  have hv := hz
  cases (show Rep I d v from hv) with
  | @tup p xs ds hp hr =>
    cases h
    refine ⟨p, xs, rfl, .inr (.inl (.inl (s.ex _ _ hp))), fun l hl => ?_⟩
    obtain ⟨s2, g2, r2⟩ := s.lst hl hr
    exact q _ _ _ _ s2 g2 r2
  | @lst p xs ds hp hr =>
    cases h
    refine ⟨p, xs, rfl, .inl (.inl (.inl (s.ex _ _ hp))), fun l hl => ?_⟩
    obtain ⟨s2, g2, r2⟩ := s.lst hl hr
    exact q _ _ _ _ s2 g2 r2
  | _ => cases h⟩
/-- list(..) that is a cell -/
theorem KS.listN {ds : List D} (h : seqD d = some ds) : KS C (.type "list") [.dat d] M (.adr M.length) (M ++ [some (ds.map .dat)]) := ⟨_, fun X hX => by
  have := call_list_of (X := X)
  rw [hX.K] at this
  exact this, fun I H adr σ E vs Q s hv q => by
  obtain ⟨v, ev, hz⟩ := vsOne hv
  subst ev
  have hv := hz
  cases (show Rep I d v from hv) with
  | @tup p xs ds hp hr =>
    cases h
    refine ⟨p, xs, rfl, .inr (.inl (.inl (s.ex _ _ hp))), fun l hl => ?_⟩
    obtain ⟨s2, g2, r2⟩ := s.cel hl (Vs.reps hr)
    exact q _ _ _ _ s2 g2 ⟨l, r2, rfl⟩
  | @lst p xs ds hp hr =>
    cases h
    refine ⟨p, xs, rfl, .inl (.inl (.inl (s.ex _ _ hp))), fun l hl => ?_⟩
    obtain ⟨s2, g2, r2⟩ := s.cel hl (Vs.reps hr)
    exact q _ _ _ _ s2 g2 ⟨l, r2, rfl⟩
  | _ => cases h⟩

/-! #### isinstance -/
def D.ty : D → String
  | .non => "NoneType" | .bl _ => "bool" | .int _ => "int" | .str _ => "str" | .tup _ => "tuple" | .lst _ => "list" | .dct _ _ => "dict"
theorem ty_of {K : PySem.W.Frag} {I H : Hp} {v : V} (e : Ex I H) (h : Rep I d v) : TyX K H v (.type d.ty) := by
  cases h with
  | non => exact .base .non
  | bl b => exact .base (.bl b)
  | int i => exact .base (.int i)
  | str x => exact .base (.str x)
  | tup h r => exact .base (.tup (e _ _ h))
  | lst h r => exact .base (.lst (e _ _ h))
  | dct h r => exact .base (.dK (e _ _ h))
/-- isinstance(x, T), T the name of a built-in class -/
theorem EV.isi {T : Str} {Tn : String} {x : Str} {pt : Pos} (ha : EV C a E M (.dat d) M') (hm : Bt C.g "isinstance") (hmT : Bt C.g T) (hv : bootBuiltins T = some (.type Tn)) (hk : kitB d.ty Tn = some k) (hx : x = "isinstance" := by rfl)
    (hg : C.sc.names.lookup x = some .globalImplicit := by rfl) (hgT : C.sc.names.lookup T = some .globalImplicit := by rfl) (hn : x ≠ "__name__" := by decide) (hdb : (x == ("__debug__" : Str)) = false := by decide) (hnT : T ≠ "__name__" := by decide) (hdbT : (T == ("__debug__" : Str)) = false := by decide)
    (hs : ∀ env, starEach [a, .Name T pt] env = (false, eval a env) :: starEach [.Name T pt] env := by intro _; rfl) (hpl : ∀ env, (backTo pos (starEach [.Name T pt] env)).any (·.1) = false := by intro _; rfl) : EV C (.Call (.Name x p) [a, .Name T pt] [] pos) E M (.dat (.bl k)) M' := by
  subst hx
  refine EV.mk (t := tCB (rIsi C.g.K) (tCons (UE C a) (tCons (tC (.ty Tn)) tNil))) (fun X hX => ?_) fun I H adr σ Q s q => ?_
  · have h1 := call_isi (X := X)
    rw [hX.K] at h1
    refine pe_callB h1 (by show X.env.scope.names.lookup _ = _; rw [hX.sc]; exact hg) (by rw [hX.mg]; exact hm) (by decide +kernel) (pa_cons (ue hX a) (pa_cons (pe_bltn (v := .ty Tn) (by show X.env.scope.names.lookup _ = _; rw [hX.sc]; exact hgT) (by rw [hX.mg]; exact hmT) hv rfl hnT hdbT) pa_nil) (hs X.env)) hn hdb (hs X.env) (hpl X.env)
  · refine ha I H adr σ _ s fun v I1 H1 adr1 s1 g1 v1 => ?_
    exact ⟨v, .ty Tn, _, _, k, rfl, .ty Tn, ty_of s1.ex v1, kit_ty hk, q _ I1 H1 adr1 s1 g1 (.bl _)⟩
/-- isinstance(x, (T1, T2)) -/
theorem EV.isi2 {T1 T2 : Str} {Tn1 Tn2 : String} {x : Str} {pt1 pt2 pt : Pos} {k1 k2 : Bool} {kt : Nat} (ha : EV C a E M (.dat d) M') (hm : Bt C.g "isinstance") (hm1 : Bt C.g T1) (hm2 : Bt C.g T2) (hv1 : bootBuiltins T1 = some (.type Tn1)) (hv2 : bootBuiltins T2 = some (.type Tn2)) (hk1 : kitB d.ty Tn1 = some k1) (hk2 : kitB d.ty Tn2 = some k2) (hx : x = "isinstance" := by rfl)
    (hg : C.sc.names.lookup x = some .globalImplicit := by rfl) (hg1 : C.sc.names.lookup T1 = some .globalImplicit := by rfl) (hg2 : C.sc.names.lookup T2 = some .globalImplicit := by rfl) (hn : x ≠ "__name__" := by decide) (hdb : (x == ("__debug__" : Str)) = false := by decide) (hn1 : T1 ≠ "__name__" := by decide) (hdb1 : (T1 == ("__debug__" : Str)) = false := by decide) (hn2 : T2 ≠ "__name__" := by decide) (hdb2 : (T2 == ("__debug__" : Str)) = false := by decide)
    (hs : ∀ env, starEach [a, .Tuple [.Name T1 pt1, .Name T2 pt2] kt pt] env = (false, eval a env) :: starEach [.Tuple [.Name T1 pt1, .Name T2 pt2] kt pt] env := by intro _; rfl) (hpl : ∀ env, (backTo pos (starEach [.Tuple [.Name T1 pt1, .Name T2 pt2] kt pt] env)).any (·.1) = false := by intro _; rfl) :
    EV C (.Call (.Name x p) [a, .Tuple [.Name T1 pt1, .Name T2 pt2] kt pt] [] pos) E M (.dat (.bl (k1 || k2))) M' := by
  subst hx
  refine EV.mk (t := tCB (rIsiT C.g.K) (tCons (UE C a) (tCons (tTup (tCons (tC (.ty Tn1)) (tCons (tC (.ty Tn2)) tNil))) tNil))) (fun X hX => ?_) fun I H adr σ Q s q => ?_
  · have h1 := call_isiT (X := X)
    rw [hX.K] at h1
    refine pe_callB h1 (by show X.env.scope.names.lookup _ = _; rw [hX.sc]; exact hg) (by rw [hX.mg]; exact hm) (by decide +kernel)
      (pa_cons (ue hX a) (pa_cons (pe_tup (pa_cons (pe_bltn (v := .ty Tn1) (by show X.env.scope.names.lookup _ = _; rw [hX.sc]; exact hg1) (by rw [hX.mg]; exact hm1) hv1 rfl hn1 hdb1) (pa_cons (pe_bltn (v := .ty Tn2) (by show X.env.scope.names.lookup _ = _; rw [hX.sc]; exact hg2) (by rw [hX.mg]; exact hm2) hv2 rfl hn2 hdb2) pa_nil))) pa_nil) (hs X.env)) hn hdb (hs X.env) (hpl X.env)
  · refine ha I H adr σ _ s fun v I1 H1 adr1 s1 g1 v1 => ?_
    refine ⟨by show 2 ≤ sizeLine; decide, fun tp htp => ?_⟩
    have hi := s1.ex.non htp
    have ex2 : Ex I1 (upd H1 tp (.tup [.ty Tn1, .ty Tn2])) := s1.ex.mut hi
    refine ⟨v, tp, [.ty Tn1, .ty Tn2], _, [.type Tn1, .type Tn2], k1 || k2, rfl, upd_same, .cons (.ty Tn1) (.cons (.ty Tn2) .nil), ty_of ex2 v1, ?_, ?_⟩
    · refine kitAny_cons (kit_ty hk1) (fun e => kitAny_cons (r := k1 || k2) (kit_ty hk2) (fun e2 => by rw [e, e2]; exact kitAny_nil) (fun e2 => by rw [e2]; simp)) (fun e => by rw [e]; rfl)
    · have g2 : Grow I1 H1 adr1 I1 (upd H1 tp (.tup [.ty Tn1, .ty Tn2])) adr1 :=
        ⟨Ex.refl _, ⟨[], by simp, by simp⟩, fun q u h _ => by rw [upd_ne (ne_of_none h htp)]; exact h, fun q u h => ⟨u, by rw [upd_ne (ne_of_none h htp)]; exact h⟩, fun _ _ _ h _ => h⟩
      have t2 : Sto I1 (upd H1 tp (.tup [.ty Tn1, .ty Tn2])) adr1 M' := by
        refine ⟨s1.sto.len, s1.sto.nd, fun kk b ps h1 h2 => ?_, fun kk b h => ?_⟩
        · obtain ⟨c1, ys, c2, c3⟩ := s1.sto.cell kk b ps h1 h2
          exact ⟨c1, ys, by rw [upd_ne (ne_of_none c2 htp)]; exact c2, c3⟩
        · obtain ⟨u, hu⟩ := s1.sto.dom kk b h
          exact ⟨u, by rw [upd_ne (ne_of_none hu htp)]; exact hu⟩
      exact q _ I1 _ adr1 (s1.mono g2 ex2 t2) (g1.trans g2) (.bl _)
end
end Ab
/-! Ab: targets, loops, comprehensions, methods, calls. -/
namespace Ab
open PySem PySem.Spec PyProof.Rows L2

/-! ### targets -/
def UG (C : Cc) (tg : Expr) : TG := fun v σ H Q => ∃ t : TG, (∀ X, CxIs C X → PG X tg t) ∧ t v σ H Q
def UGs (C : Cc) (tgs : List Expr) : TGs := fun vs σ H Q => ∃ t : TGs, (∀ X, CxIs C X → PGs X tgs t) ∧ t vs σ H Q
theorem ug {C : Cc} {X : Cx} (h : CxIs C X) (e : Expr) : PG X e (UG C e) := ⟨fun pins s σ H v u Q I r q => let ⟨_, p, q⟩ := q; (p X h).run pins s σ H v u Q I r q⟩
theorem ugs {C : Cc} {X : Cx} (h : CxIs C X) (es : List Expr) : PGs X es (UGs C es) := ⟨fun pins s σ H vs us Q I r q => let ⟨_, p, q⟩ := q; (p X h).run pins s σ H vs us Q I r q⟩
def EG (C : Cc) (tg : Expr) (o : O) (E : List O) (M : Mem) (E' : List O) (M' : Mem) : Prop :=
  ∀ (I H : Hp) (adr : List Addr) (σ : L2.St) (v : V) (Q : L2.St → Hp → Prop), Stt I H adr σ E M → Vo I adr o v → (∀ I' H' adr' σ', Stt I' H' adr' σ' E' M' → Grow I H adr I' H' adr' → Q σ' H') → UG C tg v σ H Q
def EGs (C : Cc) (tgs : List Expr) (os : List O) (E : List O) (M : Mem) (E' : List O) (M' : Mem) : Prop :=
  ∀ (I H : Hp) (adr : List Addr) (σ : L2.St) (vs : List V) (Q : L2.St → Hp → Prop), Stt I H adr σ E M → Vs I adr os vs → (∀ I' H' adr' σ', Stt I' H' adr' σ' E' M' → Grow I H adr I' H' adr' → Q σ' H') → UGs C tgs vs σ H Q
/-- what is forgotten -/
def Fg (E E' : List O) : Prop := E.length = E'.length ∧ ∀ (i : Nat) (o : O), E'[i]? = some o → o = .no ∨ E[i]? = some o
theorem Fg.refl {E : List O} : Fg E E := ⟨rfl, fun _ _ h => .inr h⟩
theorem Fg.cons {o : O} {E E' : List O} (h : Fg E E') : Fg (o :: E) (o :: E') := ⟨by simp [h.1], fun i p q => by
  cases i with
  | zero => exact .inr q
  | succ i => exact h.2 i p (by simpa using q)⟩
theorem Fg.no {o : O} {E E' : List O} (h : Fg E E') : Fg (o :: E) (.no :: E') := ⟨by simp [h.1], fun i p q => by
  cases i with
  | zero => exact .inl (by simpa using q.symm)
  | succ i => exact h.2 i p (by simpa using q)⟩
theorem Fg.nil : Fg [] [] := Fg.refl
theorem Stt.forget {I H : Hp} {adr : List Addr} {σ : L2.St} {E E' : List O} {M : Mem} (s : Stt I H adr σ E M) (f : Fg E E') : Stt I H adr σ E' M :=
  ⟨s.ex, s.sto, f.1.symm.trans s.len, fun i o ov h1 h2 => by
    rcases f.2 i o h1 with e | e
    · subst e
      cases ov with
      | none => rfl
      | some v => exact True.intro
    · exact s.slot i o ov e h2⟩

section
variable {C : Cc} {E E1 E2 E' : List O} {M M1 M2 M3 M' : Mem} {o o1 o2 o3 : O} {os : List O} {e a b c tg iter elt : Expr} {es : List Expr} {pos pos' p : Pos} {d d1 d2 : D} {i j : Int} {k k' : Bool} {r : Out} {body : List Stmt}
theorem EG.nm (i : Nat) {x : Str} (nd : C.N.Nodup) (hi : C.N[i]? = some x := by rfl) (hx : Loc C.sc x := by first | exact Or.inl rfl | exact Or.inr rfl) (hf : C.fn x = true ∨ C.sc.names.lookup x = some .local := by first | exact .inl rfl | exact .inr rfl) : EG C (.Name x pos) o E M (E.set i o) M :=
  fun I H adr σ v Q s hv q => ⟨gName i, fun X hX => pg_name (by rw [hX.N]; exact nd) (by rw [hX.N]; exact hi) (by rw [hX.sc]; exact hx) (hf.elim (fun z => .inl (hX.fn x z)) (fun z => .inr (by rw [hX.sc]; exact z))), q I H adr _ (s.set hv) Grow.refl⟩
theorem EGs.nil : EGs C [] [] E M E M := fun I H adr σ vs Q s hv q => by
  cases hv
  exact ⟨gNil, fun _ _ => pgs_nil, rfl, q I H adr σ s Grow.refl⟩
theorem EGs.cons (h : EG C a o E M E1 M1) (hr : EGs C es os E1 M1 E' M') (hs : ∀ env, (assignEach (a :: es) env).map (·.2) = assign a env :: (assignEach es env).map (·.2) := by intro _; rfl) : EGs C (a :: es) (o :: os) E M E' M' :=
  fun I H adr σ vs Q s hv q => by
    cases hv with
    | @cons _ v _ vs hv hr' =>
      refine ⟨gCons (UG C a) (UGs C es), fun X hX => pgs_cons (ug hX a) (ugs hX es) (hs X.env), v, vs, rfl, ?_⟩
      exact h I H adr σ v _ s hv fun I1 H1 adr1 σ1 s1 g1 => hr I1 H1 adr1 σ1 vs Q s1 (Vs.mono g1 hr') fun I2 H2 adr2 σ2 s2 g2 => q I2 H2 adr2 σ2 s2 (g1.trans g2)
theorem EG.tup {ds : List D} {kk : Nat} (h : EGs C es (ds.map .dat) E M E' M') (hn : ∀ env, (assignEach es env).length = ds.length := by intro _; rfl) (hst : ∀ env, (assignEach es env).findIdx? (·.1) = none := by intro _; rfl) : EG C (.Tuple es kk pos) (.dat (.tup ds)) E M E' M' :=
  fun I H adr σ v Q s hv q => by
    cases (show Rep I (.tup ds) v from hv) with
    | @tup p xs _ hp hr =>
      refine ⟨gTup C.g.K ds.length (UGs C es), fun X hX => by
        have := pg_tup (pos := pos) (k := kk) hX.calm (ugs hX es) (hn X.env) (hst X.env)
        rw [hX.K] at this
        exact this, p, xs, rfl, .inl (.inl (s.ex _ _ hp)), hr.length.symm, ?_⟩
      exact h I H adr σ xs Q s (Vs.reps hr) q
/-- o[i] = .., o a cell -/
theorem EG.sub {n jj : Nat} {ps : List O} (ho : EV C a E M (.adr n) M1) (hi : EV C b E M1 (.dat (.int i)) M2) (hm : M2[n]? = some (some ps)) (hj : ixN ps.length i = some jj)
    (ha : ∀ env v, assign (.Subscript a b pos) env v = (do
      let ov ← holding [v] (eval a env)
      let iv ← holding [v, ov] (eval b env)
      standAt pos
      holding [v, ov, iv] (setItem ov iv v)
      release [v, ov, iv] []) := by intro _ _; rfl) : EG C (.Subscript a b pos) o E M E (M2.set n (some (ps.set jj o))) :=
  fun I H adr σ v Q s hv q => ⟨gSub (UE C a) (UE C b) rSetL, fun X hX => pg_sub (ue hX a) (ue hX b) set_list (ha X.env),
    ho I H adr σ _ s fun x I1 H1 adr1 s1 g1 x1 => hi I1 H1 adr1 σ _ s1 fun y I2 H2 adr2 s2 g2 y2 => by
      cases rep_int y2
      obtain ⟨p, hp, rfl⟩ := x1.mono g2
      obtain ⟨_, xs, h2, h3⟩ := s2.sto.cell n p ps hp hm
      have hv2 : Vo I2 adr2 o v := (hv.mono g1).mono g2
      obtain ⟨s4, g4⟩ := s2.wri hp hm (Vs.set hv2 jj h3)
      exact ⟨p, xs, i, jj, rfl, rfl, h2, by rw [← h3.length]; exact hj, q _ _ _ _ s4 ((g1.trans g2).trans g4)⟩⟩
/-- target = e -/
theorem ST.asg (he : EV C e E M o M1) (hg : EG C tg o E M1 E' M') (hs : ∀ env, swapsWithSole [tg] e pos.line env = pure false := by intro _; rfl) (hw : ∀ env, swappedStores [tg] e env = pure none := by intro _; rfl) (h1 : ∀ env, (assignEach [tg] env).map (·.2) = [assign tg env] := by intro _; rfl) : ST C (.Assign [tg] e pos) E M (.nx E' M') :=
  ST.mk (fun X hX => ps_asg (ue hX e) (ug hX tg) (hs X.env) (hw X.env) (h1 X.env)) fun I H adr σ D s q => he I H adr σ _ s fun v I1 H1 adr1 s1 g1 v1 => hg I1 H1 adr1 σ v _ s1 v1 fun I2 H2 adr2 σ2 s2 g2 => q I2 H2 adr2 σ2 s2 (g1.trans g2)
theorem ST.forget {st : Stmt} (h : ST C st E M (.nx E1 M')) (f : Fg E1 E2) : ST C st E M (.nx E2 M') := fun I H adr σ D s q => h I H adr σ D s fun I1 H1 adr1 σ1 s1 g1 => q I1 H1 adr1 σ1 (s1.forget f) g1
theorem SB.forget {sts : List Stmt} (f : Fg E E1) (h : SB C sts E1 M r) : SB C sts E M r := fun I H adr σ D s q => h I H adr σ D (s.forget f) q

/-! ### what is walked -/
def Runs (J : It) (I1 H1 : Hp) (adr1 : List Addr) (n : Nat) (it : Nat → O) (inv : Mem → Prop) : Prop :=
  ∀ (I2 H2 : Hp) (adr2 : List Addr) (σ2 : L2.St) (E2 : List O) (M2 : Mem), Stt I2 H2 adr2 σ2 E2 M2 → Grow I1 H1 adr1 I2 H2 adr2 → inv M2 → J.stop n H2 ∧
    ∀ i, i < n → J.go i H2 ∧ ∀ x H3, J.yld i H2 x H3 → ∃ I3, Stt I3 H3 adr2 σ2 E2 M2 ∧ Grow I2 H2 adr2 I3 H3 adr2 ∧ Vo I3 adr2 (it i) x
def UI (C : Cc) (tg iter : Expr) : TI := fun σ H R => ∃ t : TI, (∀ X, CxIs C X → PI X tg iter t) ∧ t σ H R
theorem ui {C : Cc} {X : Cx} (h : CxIs C X) (tg iter : Expr) : PI X tg iter (UI C tg iter) := ⟨fun pins s σ H R I q => let ⟨_, p, q⟩ := q; (p X h).run pins s σ H R I q⟩
def EI (C : Cc) (tg iter : Expr) (E : List O) (M : Mem) (n : Nat) (it : Nat → O) (M1 : Mem) (inv : Mem → Prop) : Prop :=
  ∀ (I H : Hp) (adr : List Addr) (σ : L2.St) (R : It → Hp → Prop), Stt I H adr σ E M → (∀ J I1 H1 adr1, Stt I1 H1 adr1 σ E M1 → Grow I H adr I1 H1 adr1 → Runs J I1 H1 adr1 n it inv → R J H1) → UI C tg iter σ H R
abbrev tt : Mem → Prop := fun _ => True
def atO (ds : List D) (i : Nat) : O := .dat (ds.getD i .non)
theorem atO_get {ds : List D} {i : Nat} (h : i < ds.length) : ds[i]? = some (ds.getD i .non) := by
  rw [List.getD_eq_getElem?_getD, List.getElem?_eq_getElem h]
  rfl
theorem sql_uniq {K : PySem.W.Frag} {H : Hp} {p : Addr} {xs : List V} (h : H p = some (.lst xs)) : SqL K H p xs := .inl (.inl h)
theorem sqt_uniq {K : PySem.W.Frag} {H : Hp} {p : Addr} {xs : List V} (h : H p = some (.tup xs)) : SqT K H p xs := .inl (.inl h)
theorem EI.lst {ds : List D} (h : EV C iter E M (.dat (.lst ds)) M1) : EI C tg iter E M ds.length (atO ds) M1 tt := fun I H adr σ R s q =>
  ⟨iList C.g.K (UE C iter), fun X hX => by
    have := pi_list (tg := tg) (ue hX iter)
    rw [hX.K] at this
    exact this, h I H adr σ _ s fun v I1 H1 adr1 s1 g1 v1 => by
      cases (show Rep I1 (.lst ds) v from v1) with
      | @lst p xs _ hp hr =>
        refine ⟨p, rfl, ⟨xs, sql_uniq (s1.ex _ _ hp)⟩, q _ I1 H1 adr1 s1 g1 fun I2 H2 adr2 σ2 E2 M2 s2 g2 _ => ?_⟩
        have h2 : I2 p = some (.lst xs) := g2.ex _ _ hp
        have h3 : H2 p = some (.lst xs) := s2.ex _ _ h2
        refine ⟨⟨xs, sql_uniq h3, by rw [hr.length]; exact Nat.le_refl _⟩, fun i hi => ?_⟩
        obtain ⟨x, hx, hrx⟩ := hr.get (atO_get hi)
        refine ⟨⟨xs, x, sql_uniq h3, hx⟩, fun y H3 hy => ?_⟩
        obtain ⟨rfl, hy⟩ := hy
        have e : y = x := Option.some.inj ((hy xs (sql_uniq h3)).symm.trans hx)
        subst e
        exact ⟨I2, s2, Grow.refl, hrx.mono g2.ex⟩⟩
theorem EI.tup {ds : List D} (h : EV C iter E M (.dat (.tup ds)) M1) : EI C tg iter E M ds.length (atO ds) M1 tt := fun I H adr σ R s q =>
  ⟨iTup C.g.K (UE C iter), fun X hX => by
    have := pi_tup (tg := tg) (ue hX iter)
    rw [hX.K] at this
    exact this, h I H adr σ _ s fun v I1 H1 adr1 s1 g1 v1 => by
      cases (show Rep I1 (.tup ds) v from v1) with
      | @tup p xs _ hp hr =>
        refine ⟨p, rfl, ⟨xs, sqt_uniq (s1.ex _ _ hp)⟩, q _ I1 H1 adr1 s1 g1 fun I2 H2 adr2 σ2 E2 M2 s2 g2 _ => ?_⟩
        have h2 : I2 p = some (.tup xs) := g2.ex _ _ hp
        have h3 : H2 p = some (.tup xs) := s2.ex _ _ h2
        refine ⟨⟨xs, sqt_uniq h3, by rw [hr.length]; exact Nat.le_refl _⟩, fun i hi => ?_⟩
        obtain ⟨x, hx, hrx⟩ := hr.get (atO_get hi)
        refine ⟨⟨xs, x, sqt_uniq h3, hx⟩, fun y H3 hy => ?_⟩
        obtain ⟨rfl, hy⟩ := hy
        have e : y = x := Option.some.inj ((hy xs (sqt_uniq h3)).symm.trans hx)
        subst e
        exact ⟨I2, s2, Grow.refl, hrx.mono g2.ex⟩⟩
theorem EI.seq {ds : List D} (h : EV C iter E M (.dat d) M1) (hd : seqD d = some ds) : EI C tg iter E M ds.length (atO ds) M1 tt := by
  cases d <;> first | (cases hd; exact EI.tup h) | (cases hd; exact EI.lst h) | cases hd
/-- over a cell that the body leaves as it is -/
theorem EI.cell {n : Nat} {ps : List O} (h : EV C iter E M (.adr n) M1) (hm : M1[n]? = some (some ps)) : EI C tg iter E M ps.length (fun i => ps.getD i .no) M1 (fun M' => M'[n]? = some (some ps)) := fun I H adr σ R s q =>
  ⟨iList C.g.K (UE C iter), fun X hX => by
    have := pi_list (tg := tg) (ue hX iter)
    rw [hX.K] at this
    exact this, h I H adr σ _ s fun v I1 H1 adr1 s1 g1 v1 => by
      obtain ⟨p, hp, rfl⟩ := v1
      obtain ⟨_, xs, h2, h3⟩ := s1.sto.cell n p ps hp hm
      refine ⟨p, rfl, ⟨xs, sql_uniq h2⟩, q _ I1 H1 adr1 s1 g1 fun I2 H2 adr2 σ2 E2 M2 s2 g2 hinv => ?_⟩
      obtain ⟨_, ys, h4, h5⟩ := s2.sto.cell n p ps (g2.get hp) hinv
      refine ⟨⟨ys, sql_uniq h4, by rw [h5.length]; exact Nat.le_refl _⟩, fun i hi => ?_⟩
      have hget : ps[i]? = some (ps.getD i .no) := by
        rw [List.getD_eq_getElem?_getD, List.getElem?_eq_getElem hi]
        rfl
      obtain ⟨x, hx, hrx⟩ := h5.get hget
      refine ⟨⟨ys, x, sql_uniq h4, hx⟩, fun y H3 hy => ?_⟩
      obtain ⟨rfl, hy⟩ := hy
      have e : y = x := Option.some.inj ((hy ys (sql_uniq h4)).symm.trans hx)
      subst e
      exact ⟨I2, s2, Grow.refl, hrx⟩⟩
def atI0 (lo : Int) (i : Nat) : O := .dat (.int (lo + i))
theorem EI.rng1 {x : Str} (h : EV C a E M (.dat (.int j)) M1) (hm : Bt C.g "range") (hj : -(2 ^ 62) ≤ j ∧ j < 2 ^ 62) (hx : x = "range" := by rfl) (hg : C.sc.names.lookup x = some .globalImplicit := by rfl)
    (hs : ∀ env, starEach [a] env = [(false, eval a env)] := by intro _; rfl) : EI C tg (.Call (.Name x p) [a] [] pos) E M j.toNat (atI0 0) M1 tt := fun I H adr σ R s q => by
  subst hx
  refine ⟨iRng1 (tCons (UE C a) tNil), fun X hX => pi_range1 (by show X.env.scope.names.lookup _ = _; rw [hX.sc]; exact hg) (by rw [hX.mg]; exact hm) (pa_cons (ue hX a) pa_nil (hs X.env)) (hs X.env), ?_⟩
  refine h I H adr σ _ s fun v I1 H1 adr1 s1 g1 v1 => ?_
  cases rep_int v1
  refine ⟨j, rfl, hj.1, hj.2, q _ I1 H1 adr1 s1 g1 fun I2 H2 adr2 σ2 E2 M2 s2 g2 _ => ⟨Nat.le_refl _, fun i hi => ⟨hi, fun y H3 hy => ?_⟩⟩⟩
  obtain ⟨rfl, rfl⟩ := hy
  exact ⟨I2, s2, Grow.refl, .int _⟩
theorem EI.rng2 {x : Str} (h : EV C a E M (.dat (.int i)) M1) (h' : EV C b E M1 (.dat (.int j)) M2) (hm : Bt C.g "range") (hi : -(2 ^ 62) ≤ i ∧ i < 2 ^ 62) (hj : -(2 ^ 62) ≤ j ∧ j < 2 ^ 62) (hx : x = "range" := by rfl) (hg : C.sc.names.lookup x = some .globalImplicit := by rfl)
    (hs : ∀ env, starEach [a, b] env = [(false, eval a env), (false, eval b env)] := by intro _; rfl) (hs2 : ∀ env, starEach [b] env = [(false, eval b env)] := by intro _; rfl) : EI C tg (.Call (.Name x p) [a, b] [] pos) E M (j - i).toNat (atI0 i) M2 tt := fun I H adr σ R s q => by
  subst hx
  refine ⟨iRng2 (tCons (UE C a) (tCons (UE C b) tNil)), fun X hX => pi_range2 (by show X.env.scope.names.lookup _ = _; rw [hX.sc]; exact hg) (by rw [hX.mg]; exact hm) (pa_cons (ue hX a) (pa_cons (ue hX b) pa_nil (hs2 X.env)) (by rw [hs X.env, hs2 X.env])) (hs X.env) (hs2 X.env), ?_⟩
  refine h I H adr σ _ s fun v I1 H1 adr1 s1 g1 v1 => h' I1 H1 adr1 σ _ s1 fun w I2 H2 adr2 s2 g2 w2 => ?_
  cases rep_int v1
  cases rep_int w2
  refine ⟨i, j, rfl, ⟨hi.1, hi.2, hj.1, hj.2⟩, q _ I2 H2 adr2 s2 (g1.trans g2) fun I3 H3 adr3 σ3 E3 M3 s3 g3 _ => ⟨Nat.le_refl _, fun n hn => ⟨hn, fun y H4 hy => ?_⟩⟩⟩
  obtain ⟨rfl, rfl⟩ := hy
  exact ⟨I3, s3, Grow.refl, .int _⟩
def atZ (ds es : List D) (i : Nat) : O := .dat (.tup [ds.getD i .non, es.getD i .non])
theorem EI.zip {ds es : List D} {x : Str} {elts : List Expr} {kk : Nat} {tp : Pos} (h1 : EV C a E M (.dat d1) M1) (h2 : EV C b E M1 (.dat d2) M2) (hd : (d1 = .tup ds ∧ d2 = .tup es) ∨ (d1 = .lst ds ∧ d2 = .lst es)) (hm : Bt C.g "zip") (hx : x = "zip" := by rfl) (hg : C.sc.names.lookup x = some .globalImplicit := by rfl)
    (hs : ∀ env, starEach [a, b] env = (false, eval a env) :: starEach [b] env := by intro _; rfl) (hs2 : ∀ env, starEach [b] env = (false, eval b env) :: starEach [] env := by intro _; rfl) (hpl : ∀ env, (backTo pos (starEach [b] env)).any (·.1) = false := by intro _; rfl) :
    EI C (.Tuple elts kk tp) (.Call (.Name x p) [a, b] [] pos) E M (min ds.length es.length) (atZ ds es) M2 tt := fun I H adr σ R s q => by
  subst hx
  refine ⟨RZ.iZipA C.g.K (tCons (UE C a) (tCons (UE C b) tNil)), fun X hX => by
    have := RZ.pi_zipA (tpos := tp) (elts := elts) (kk := kk) (p := p) (pos := pos) (X := X) (by show X.env.scope.names.lookup _ = _; rw [hX.sc]; exact hg) (by rw [hX.mg]; exact hm) (pa_cons (ue hX a) (pa_cons (ue hX b) pa_nil (hs2 X.env)) (hs X.env)) (hs X.env) (hpl X.env)
    rw [hX.K] at this
    exact this, ?_⟩
  refine h1 I H adr σ _ s fun v I1 H1 adr1 s1 g1 v1 => h2 I1 H1 adr1 σ _ s1 fun w I2 H2 adr2 s2 g2 w2 => ?_
  have v2 := v1.mono g2
  have turn : ∀ {xs ys : List V} {I3 H3 : Hp} {adr3 : List Addr} {σ3 : L2.St} {E3 : List O} {M3 : Mem} (hr : Reps I2 ds xs) (hr' : Reps I2 es ys) (s3 : Stt I3 H3 adr3 σ3 E3 M3) (g3 : Grow I2 H2 adr2 I3 H3 adr3) (n : Nat) (hn : n < min ds.length es.length) (T : Addr) (hT : H3 T = none) (x y : V) (hx : xs[n]? = some x) (hy : ys[n]? = some y),
      ∃ I4, Stt I4 (upd H3 T (.tup [x, y])) adr3 σ3 E3 M3 ∧ Grow I3 H3 adr3 I4 (upd H3 T (.tup [x, y])) adr3 ∧ Vo I4 adr3 (atZ ds es n) (.ref T) := fun {xs ys I3 H3 adr3 σ3 E3 M3} hr hr' s3 g3 n hn T hT x y hx hy => by
    obtain ⟨x', ex, rx⟩ := hr.get (atO_get (show n < ds.length by omega))
    obtain ⟨y', ey, ry⟩ := hr'.get (atO_get (show n < es.length by omega))
    have e1 : x' = x := Option.some.inj (ex.symm.trans hx)
    have e2 : y' = y := Option.some.inj (ey.symm.trans hy)
    subst e1 e2
    obtain ⟨s4, g4, r4⟩ := s3.tup hT (.cons (rx.mono g3.ex) (.cons (ry.mono g3.ex) .nil))
    exact ⟨_, s4, g4, r4⟩
  rcases hd with ⟨rfl, rfl⟩ | ⟨rfl, rfl⟩
  · cases (show Rep I2 (.tup ds) v from v2) with
    | @tup p1 xs _ hp hr =>
      cases (show Rep I2 (.tup es) w from w2) with
      | @tup p2 ys _ hp' hr' =>
        refine ⟨p1, p2, xs, ys, rfl, .inr ⟨sqt_uniq (s2.ex _ _ hp), sqt_uniq (s2.ex _ _ hp'), q _ I2 H2 adr2 s2 (g1.trans g2) fun I3 H3 adr3 σ3 E3 M3 s3 g3 _ => ?_⟩⟩
        have a1 : SqT C.g.K H3 p1 xs := sqt_uniq (s3.ex _ _ (g3.ex _ _ hp))
        have a2 : SqT C.g.K H3 p2 ys := sqt_uniq (s3.ex _ _ (g3.ex _ _ hp'))
        have l1 := hr.length
        have l2 := hr'.length
        refine ⟨⟨xs, ys, a1, a2, by omega⟩, fun n hn => ?_⟩
        have b1 : xs[n]? = some (xs[n]'(by omega)) := List.getElem?_eq_getElem _
        have b2 : ys[n]? = some (ys[n]'(by omega)) := List.getElem?_eq_getElem _
        refine ⟨⟨xs, ys, _, _, a1, a2, b1, b2⟩, fun z H4 hz => ?_⟩
        obtain ⟨T, x, y, rfl, hT, rfl, f1, f2⟩ := hz
        exact turn hr hr' s3 g3 n hn T hT x y (f1 _ a1) (f2 _ a2)
  · cases (show Rep I2 (.lst ds) v from v2) with
    | @lst p1 xs _ hp hr =>
      cases (show Rep I2 (.lst es) w from w2) with
      | @lst p2 ys _ hp' hr' =>
        refine ⟨p1, p2, xs, ys, rfl, .inl ⟨sql_uniq (s2.ex _ _ hp), sql_uniq (s2.ex _ _ hp'), q _ I2 H2 adr2 s2 (g1.trans g2) fun I3 H3 adr3 σ3 E3 M3 s3 g3 _ => ?_⟩⟩
        have a1 : SqL C.g.K H3 p1 xs := sql_uniq (s3.ex _ _ (g3.ex _ _ hp))
        have a2 : SqL C.g.K H3 p2 ys := sql_uniq (s3.ex _ _ (g3.ex _ _ hp'))
        have l1 := hr.length
        have l2 := hr'.length
        refine ⟨⟨xs, ys, a1, a2, by omega⟩, fun n hn => ?_⟩
        have b1 : xs[n]? = some (xs[n]'(by omega)) := List.getElem?_eq_getElem _
        have b2 : ys[n]? = some (ys[n]'(by omega)) := List.getElem?_eq_getElem _
        refine ⟨⟨xs, ys, _, _, a1, a2, b1, b2⟩, fun z H4 hz => ?_⟩
        obtain ⟨T, x, y, rfl, hT, rfl, f1, f2⟩ := hz
        exact turn hr hr' s3 g3 n hn T hT x y (f1 _ a1) (f2 _ a2)

/-! ### for -/
theorem ST.for {E_ : Nat → List O} {M_ : Nat → Mem} {n m : Nat} {it : Nat → O} {inv : Mem → Prop} (hs : EI C tg iter E M n it M1 inv) (hE : Fg E (E_ 0)) (hM : M_ 0 = M1) (hm : m ≤ n) (hinv : ∀ i, i ≤ m → inv (M_ i))
    (step : ∀ i, i < m → ∃ E1 Ma E2, EG C tg (it i) (E_ i) (M_ i) E1 Ma ∧ Fg E2 (E_ (i + 1)) ∧ (SB C body E1 Ma (.nx E2 (M_ (i + 1))) ∨ SB C body E1 Ma (.ct E2 (M_ (i + 1)))))
    (last : (m = n ∧ r = .nx (E_ n) (M_ n)) ∨ (m < n ∧ ∃ E1 Ma, EG C tg (it m) (E_ m) (M_ m) E1 Ma ∧ ((∃ o M', SB C body E1 Ma (.rt o M') ∧ r = .rt o M') ∨ ∃ E' M', SB C body E1 Ma (.bk E' M') ∧ r = .nx E' M')))
    (hf : ∀ env x, foldedSetIterable iter env x = pure x := by intro _ _; rfl) : ST C (.For tg iter body [] pos) E M r := by
  subst hM
  refine ST.mk (fun X hX => ps_for (by rw [hX.nox]; exact PassesOwn.never) hX.calm (ui hX tg iter) (ug hX tg) (ub hX body) (hf X.env)) fun I H adr σ D s q => ?_
  refine hs I H adr σ _ s fun J I1 H1 adr1 s1 g1 hr => ?_
  refine ⟨fun i μ σ' H' => i ≤ m ∧ μ = n - i ∧ ∃ I2 adr2, Stt I2 H' adr2 σ' (E_ i) (M_ i) ∧ Grow I1 H1 adr1 I2 H' adr2, ⟨n, Nat.zero_le _, by omega, I1, adr1, s1.forget hE, Grow.refl⟩, ?_⟩
  rintro i μ σ' H' ⟨hi, rfl, I2, adr2, s2, g2⟩
  obtain ⟨st, go⟩ := hr I2 H' adr2 σ' (E_ i) (M_ i) s2 g2 (hinv i hi)
  by_cases him : i < m
  · obtain ⟨Ea, Ma, Eb, hg, hfg, hb⟩ := step i him
    obtain ⟨g0, gy⟩ := go i (by omega)
    refine .inr ⟨g0, fun σ'' H'' => ∃ I3 adr3, Stt I3 H'' adr3 σ'' (E_ (i + 1)) (M_ (i + 1)) ∧ Grow I1 H1 adr1 I3 H'' adr3, fun σ'' H'' hN => ⟨n - (i + 1), by omega, by omega, rfl, hN⟩, fun x H3 hy => ?_⟩
    obtain ⟨I3, s3, g3, v3⟩ := gy x H3 hy
    refine hg I3 H3 adr2 σ' x _ s3 v3 fun I4 H4 adr4 σ4 s4 g4 => ?_
    rcases hb with hb | hb
    · exact hb I4 H4 adr4 σ4 _ s4 fun I5 H5 adr5 σ5 s5 g5 => ⟨I5, adr5, s5.forget hfg, ((g2.trans g3).trans g4).trans g5⟩
    · exact hb I4 H4 adr4 σ4 _ s4 fun I5 H5 adr5 σ5 s5 g5 => ⟨I5, adr5, s5.forget hfg, ((g2.trans g3).trans g4).trans g5⟩
  · have e : i = m := by omega
    subst e
    rcases last with ⟨hn, hr'⟩ | ⟨hn, Ea, Ma, hg, hb⟩
    · subst hn hr'
      exact .inl ⟨st, q I2 H' adr2 σ' s2 (g1.trans g2)⟩
    · obtain ⟨g0, gy⟩ := go i hn
      refine .inr ⟨g0, fun _ _ => False, fun _ _ h => h.elim, fun x H3 hy => ?_⟩
      obtain ⟨I3, s3, g3, v3⟩ := gy x H3 hy
      refine hg I3 H3 adr2 σ' x _ s3 v3 fun I4 H4 adr4 σ4 s4 g4 => ?_
      rcases hb with ⟨o, M', hb, hr'⟩ | ⟨E', M', hb, hr'⟩
      · subst hr'
        exact hb I4 H4 adr4 σ4 _ s4 fun v I5 H5 adr5 s5 g5 v5 => q v I5 H5 adr5 s5 ((((g1.trans g2).trans g3).trans g4).trans g5) v5
      · subst hr'
        exact hb I4 H4 adr4 σ4 _ s4 fun I5 H5 adr5 σ5 s5 g5 => q I5 H5 adr5 σ5 s5 ((((g1.trans g2).trans g3).trans g4).trans g5)
/-- a loop that goes through, its target one name -/
theorem ST.forN (jx : Nat) {x : Str} {E_ : Nat → List O} {M_ : Nat → Mem} {n : Nat} {it : Nat → O} {inv : Mem → Prop} (hs : EI C (.Name x p) iter E M n it M1 inv) (hE : Fg E (E_ 0)) (hM : M_ 0 = M1) (hinv : ∀ i, i ≤ n → inv (M_ i)) (nd : C.N.Nodup)
    (step : ∀ i, i < n → ∃ E2, Fg E2 (E_ (i + 1)) ∧ SB C body ((E_ i).set jx (it i)) (M_ i) (.nx E2 (M_ (i + 1))))
    (hi : C.N[jx]? = some x := by rfl) (hx : Loc C.sc x := by first | exact Or.inl rfl | exact Or.inr rfl) (hf' : C.fn x = true ∨ C.sc.names.lookup x = some .local := by first | exact .inl rfl | exact .inr rfl) (hf : ∀ env x, foldedSetIterable iter env x = pure x := by intro _ _; rfl) : ST C (.For (.Name x p) iter body [] pos) E M (.nx (E_ n) (M_ n)) :=
  ST.for hs hE hM (Nat.le_refl n) hinv (fun i h => let ⟨E2, a, b⟩ := step i h; ⟨_, _, E2, EG.nm jx nd hi hx hf', a, .inl b⟩) (.inl ⟨rfl, rfl⟩) hf

/-! ### while -/
theorem ST.while {E_ : Nat → List O} {M_ : Nat → Mem} {m : Nat} (hE : Fg E (E_ 0)) (hM : M_ 0 = M) (step : ∀ i, i < m → ∃ M1 E2, ET C c (E_ i) (M_ i) true M1 ∧ Fg E2 (E_ (i + 1)) ∧ SB C body (E_ i) M1 (.nx E2 (M_ (i + 1))))
    (last : ET C c (E_ m) (M_ m) false M') : ST C (.While c body [] pos) E M (.nx (E_ m) M') := by
  subst hM
  refine ST.mk (fun X hX => ps_while (by rw [hX.nox]; exact PassesOwn.never) (ut hX c) (ub hX body)) fun I H adr σ D s q => ?_
  refine ⟨fun μ σ' H' => ∃ i, i ≤ m ∧ μ = m - i ∧ ∃ I2 adr2, Stt I2 H' adr2 σ' (E_ i) (M_ i) ∧ Grow I H adr I2 H' adr2, ⟨m, 0, Nat.zero_le _, by omega, I, adr, s.forget hE, Grow.refl⟩, ?_⟩
  rintro μ σ' H' ⟨i, hi, rfl, I2, adr2, s2, g2⟩
  by_cases him : i < m
  · obtain ⟨M1, E2, hc, hfg, hb⟩ := step i him
    refine hc I2 H' adr2 σ' _ s2 fun I3 H3 adr3 s3 g3 => ?_
    refine ⟨fun σ'' H'' => ∃ I4 adr4, Stt I4 H'' adr4 σ'' (E_ (i + 1)) (M_ (i + 1)) ∧ Grow I H adr I4 H'' adr4, fun σ'' H'' hN => ⟨m - (i + 1), by omega, i + 1, by omega, rfl, hN⟩, ?_⟩
    exact hb I3 H3 adr3 σ' _ s3 fun I5 H5 adr5 σ5 s5 g5 => ⟨I5, adr5, s5.forget hfg, (g2.trans g3).trans g5⟩
  · have e : i = m := by omega
    subst e
    refine last I2 H' adr2 σ' _ s2 fun I3 H3 adr3 s3 g3 => ?_
    exact q I3 H3 adr3 σ' s3 (g2.trans g3)
end
end Ab
/-! Ab: comprehensions, methods, calls. -/
namespace Ab
open PySem PySem.Spec PyProof.Rows L2

def Cc.blk (C : Cc) (scope : Scope) : Cc := { C with sc := relS scope C.sc, fn := fun x => scope.names.lookup x == some .cell }
theorem cx_blk {C : Cc} {X : Cx} (h : CxIs C X) (s : Shared) (H : Hp) (scope : Scope) (A : Addr) (cl : List (Str × Addr)) (fp : List Addr) : CxIs (C.blk scope) (X.blk s H scope (compEnvC scope cl A X.env) fp) where
  P := h.P
  w := h.w
  K := h.K
  mg := h.mg
  base := h.base
  N := h.N
  sc := by
    show relS scope X.env.scope = relS scope C.sc
    rw [h.sc]
  calm := h.calm
  room := h.room
  nox := rfl
  fn := fun x q => q

/-! ### own slots -/
def wipeE (E : List O) : List Nat → List O
  | [] => E
  | v :: vs => (wipeE E vs).set v .no
theorem wipe_get (σ : L2.St) : ∀ (vs : List Nat) (i : Nat), i ∉ vs → (wipe σ vs)[i]? = σ[i]?
  | [], _, _ => rfl
  | v :: vs, i, h => by
    unfold wipe
    rw [List.getElem?_set_ne (fun z => h (by rw [z]; exact List.mem_cons_self))]
    exact wipe_get σ vs i fun z => h (List.mem_cons_of_mem _ z)
theorem wipe_in (σ : L2.St) : ∀ (vs : List Nat) (i : Nat), i ∈ vs → i < σ.length → (wipe σ vs)[i]? = some none
  | [], _, h, _ => by simp at h
  | v :: vs, i, h, hl => by
    unfold wipe
    by_cases e : v = i
    · subst e
      rw [List.getElem?_set_self (by rw [wipe_length]; exact hl)]
    · rw [List.getElem?_set_ne e]
      refine wipe_in σ vs i ?_ hl
      rcases List.mem_cons.mp h with z | z
      · exact absurd z.symm e
      · exact z
theorem wipe_eq {σ σ' : L2.St} {vs : List Nat} (hl : σ'.length = σ.length) (h : ∀ (i : Nat), i ∉ vs → σ'[i]? = σ[i]?) : wipe σ' vs = wipe σ vs := by
  refine List.ext_getElem? fun i => ?_
  by_cases hi : i ∈ vs
  · by_cases hb : i < σ.length
    · rw [wipe_in σ vs i hi hb, wipe_in σ' vs i hi (by rw [hl]; exact hb)]
    · rw [List.getElem?_eq_none (by rw [wipe_length, hl]; exact Nat.le_of_not_lt hb), List.getElem?_eq_none (by rw [wipe_length]; exact Nat.le_of_not_lt hb)]
  · rw [wipe_get _ _ _ hi, wipe_get _ _ _ hi]
    exact h i hi
theorem wipeE_length (E : List O) : ∀ vs : List Nat, (wipeE E vs).length = E.length
  | [] => rfl
  | v :: vs => by unfold wipeE; rw [List.length_set, wipeE_length E vs]
theorem wipeE_get (E : List O) : ∀ (vs : List Nat) (i : Nat) (o : O), (wipeE E vs)[i]? = some o → o = .no ∨ (i ∉ vs ∧ E[i]? = some o)
  | [], _, _, h => .inr ⟨by simp, h⟩
  | v :: vs, i, o, h => by
    unfold wipeE at h
    by_cases e : v = i
    · subst e
      by_cases hb : v < (wipeE E vs).length
      · rw [List.getElem?_set_self hb] at h
        exact .inl (Option.some.inj h).symm
      · rw [List.getElem?_eq_none (by rw [List.length_set]; exact Nat.le_of_not_lt hb)] at h
        cases h
    · rw [List.getElem?_set_ne e] at h
      rcases wipeE_get E vs i o h with z | ⟨z1, z2⟩
      · exact .inl z
      · exact .inr ⟨fun q => (List.mem_cons.mp q).elim (fun q => e q.symm) z1, z2⟩
theorem Stt.wipe {I H : Hp} {adr : List Addr} {σ : L2.St} {E : List O} {M : Mem} (s : Stt I H adr σ E M) (vs : List Nat) : Stt I H adr (wipe σ vs) (wipeE E vs) M :=
  ⟨s.ex, s.sto, by rw [wipeE_length, wipe_length]; exact s.len, fun i o ov h1 h2 => by
    rcases wipeE_get E vs i o h1 with e | ⟨hi, e⟩
    · subst e
      cases ov with
      | none => rfl
      | some v => exact True.intro
    · rw [wipe_get σ vs i hi] at h2
      exact s.slot i o ov e h2⟩

/-- a target that turns the slots vs alone -/
def EGv (C : Cc) (vs : List Nat) (tg : Expr) (o : O) (E : List O) (M : Mem) (E' : List O) (M' : Mem) : Prop :=
  ∀ (I H : Hp) (adr : List Addr) (σ : L2.St) (v : V) (Q : L2.St → Hp → Prop), Stt I H adr σ E M → Vo I adr o v → (∀ I' H' adr' σ', Stt I' H' adr' σ' E' M' → Grow I H adr I' H' adr' → σ'.length = σ.length → (∀ (i : Nat), i ∉ vs → σ'[i]? = σ[i]?) → Q σ' H') → UG C tg v σ H Q
def EGvs (C : Cc) (vs : List Nat) (tgs : List Expr) (os : List O) (E : List O) (M : Mem) (E' : List O) (M' : Mem) : Prop :=
  ∀ (I H : Hp) (adr : List Addr) (σ : L2.St) (xs : List V) (Q : L2.St → Hp → Prop), Stt I H adr σ E M → Vs I adr os xs → (∀ I' H' adr' σ', Stt I' H' adr' σ' E' M' → Grow I H adr I' H' adr' → σ'.length = σ.length → (∀ (i : Nat), i ∉ vs → σ'[i]? = σ[i]?) → Q σ' H') → UGs C tgs xs σ H Q
def UP (C : Cc) (ifs : List Expr) : TT := fun σ H Q => ∃ t : TT, (∀ X, CxIs C X → PTs X ifs t) ∧ t σ H Q
theorem up {C : Cc} {X : Cx} (h : CxIs C X) (ifs : List Expr) : PTs X ifs (UP C ifs) := ⟨fun pins s σ H Q I q => let ⟨_, p, q⟩ := q; (p X h).run pins s σ H Q I q⟩
def EP (C : Cc) (ifs : List Expr) (E : List O) (M : Mem) (b : Bool) (M' : Mem) : Prop := Et (UP C ifs) E M b M'

section
variable {C : Cc} {E E1 E2 E' : List O} {M M1 M2 M3 M' : Mem} {o o1 o2 o3 : O} {os : List O} {e a b c tg iter elt : Expr} {es : List Expr} {pos pos' p : Pos} {d d1 d2 : D} {i j : Int} {k k' : Bool} {r : Out} {body : List Stmt} {vs : List Nat}
theorem EGv.nm (i : Nat) {x : Str} (nd : C.N.Nodup) (hv : i ∈ vs) (hi : C.N[i]? = some x := by rfl) (hx : Loc C.sc x := by first | exact Or.inl rfl | exact Or.inr rfl) (hf : C.fn x = true ∨ C.sc.names.lookup x = some .local := by first | exact .inl rfl | exact .inr rfl) : EGv C vs (.Name x pos) o E M (E.set i o) M :=
  fun I H adr σ v Q s hw q => ⟨gName i, fun X hX => pg_name (by rw [hX.N]; exact nd) (by rw [hX.N]; exact hi) (by rw [hX.sc]; exact hx) (hf.elim (fun z => .inl (hX.fn x z)) (fun z => .inr (by rw [hX.sc]; exact z))),
    q I H adr _ (s.set hw) Grow.refl (List.length_set) fun j hj => List.getElem?_set_ne fun z => hj (by rw [← z]; exact hv)⟩
theorem EGvs.nil : EGvs C vs [] [] E M E M := fun I H adr σ xs Q s hv q => by
  cases hv
  exact ⟨gNil, fun _ _ => pgs_nil, rfl, q I H adr σ s Grow.refl rfl fun _ _ => rfl⟩
theorem EGvs.cons (h : EGv C vs a o E M E1 M1) (hr : EGvs C vs es os E1 M1 E' M') (hs : ∀ env, (assignEach (a :: es) env).map (·.2) = assign a env :: (assignEach es env).map (·.2) := by intro _; rfl) : EGvs C vs (a :: es) (o :: os) E M E' M' :=
  fun I H adr σ xs Q s hv q => by
    cases hv with
    | @cons _ v _ xs hv hr' =>
      refine ⟨gCons (UG C a) (UGs C es), fun X hX => pgs_cons (ug hX a) (ugs hX es) (hs X.env), v, xs, rfl, ?_⟩
      exact h I H adr σ v _ s hv fun I1 H1 adr1 σ1 s1 g1 l1 f1 => hr I1 H1 adr1 σ1 xs Q s1 (Vs.mono g1 hr') fun I2 H2 adr2 σ2 s2 g2 l2 f2 => q I2 H2 adr2 σ2 s2 (g1.trans g2) (l2.trans l1) fun i hi => (f2 i hi).trans (f1 i hi)
theorem EGv.tup {ds : List D} {kk : Nat} (h : EGvs C vs es (ds.map .dat) E M E' M') (hn : ∀ env, (assignEach es env).length = ds.length := by intro _; rfl) (hst : ∀ env, (assignEach es env).findIdx? (·.1) = none := by intro _; rfl) : EGv C vs (.Tuple es kk pos) (.dat (.tup ds)) E M E' M' :=
  fun I H adr σ v Q s hv q => by
    cases (show Rep I (.tup ds) v from hv) with
    | @tup p xs _ hp hr =>
      refine ⟨gTup C.g.K ds.length (UGs C es), fun X hX => by
        have := pg_tup (pos := pos) (k := kk) hX.calm (ugs hX es) (hn X.env) (hst X.env)
        rw [hX.K] at this
        exact this, p, xs, rfl, .inl (.inl (s.ex _ _ hp)), hr.length.symm, ?_⟩
      exact h I H adr σ xs Q s (Vs.reps hr) q
theorem EP.nil : EP C [] E M true M := fun I H adr σ Q s q => ⟨tYes, fun _ _ => pts_nil, q I H adr s Grow.refl⟩
theorem EP.one (h : ET C c E M k M') : EP C [c] E M k M' := fun I H adr σ Q s q => ⟨UT C c, fun X hX => pts_one (ut hX c), h I H adr σ Q s q⟩

/-! ### comprehensions -/
structure LC (C : Cc) (elt tg iter : Expr) (ifs : List Expr) (scope : Scope) (own : List (Str × Nat)) (E : List O) (M : Mem) (o : O) (M' : Mem) : Prop where
  ok : blkC C.N C.sc scope own = true
  nd : C.N.Nodup
  hf : ∀ env x, foldedSetIterable iter env x = pure x
  run : Ev (tLc (UI C tg iter) (UG (C.blk scope) tg) (UP (C.blk scope) ifs) (UE (C.blk scope) elt) (own.map (·.2))) E M o M'
theorem LC.ev {scope : Scope} {own : List (Str × Nat)} {ifs : List Expr} (h : LC C elt tg iter ifs scope own E M o M') : EV C (.ListComp elt [⟨tg, iter, ifs, 0⟩] scope pos) E M o M' :=
  EV.mk (fun X hX => pe_lc hX.calm (by rw [hX.N]; exact h.nd) (ui hX tg iter) (by rw [hX.N, hX.sc]; exact blkOk_by h.ok) (fun s H A cl fp => ug (cx_blk hX s H scope A cl fp) tg) (fun s H A cl fp => up (cx_blk hX s H scope A cl fp) ifs) (fun s H A cl fp => ue (cx_blk hX s H scope A cl fp) elt) (h.hf X.env)) h.run
/-- a name that takes it -/
theorem LC.set (i : Nat) {scope : Scope} {own : List (Str × Nat)} {ifs : List Expr} {y : Str} {py spos : Pos} (h : LC C elt tg iter ifs scope own E M o M') (hi : C.N[i]? = some y := by rfl) (hl : C.sc.names.lookup y = some .local := by rfl)
    (hsw : ∀ env : Env, env.scope = C.sc → swapsWith (.ListComp elt [⟨tg, iter, ifs, 0⟩] scope pos) (some (.Name y py)) spos.line env = pure true) : ST C (.Assign [.Name y py] (.ListComp elt [⟨tg, iter, ifs, 0⟩] scope pos) spos) E M (.nx (E.set i o) M') :=
  ST.mk (fun X hX => ps_setLc hX.calm (by rw [hX.N]; exact h.nd) (by rw [hX.N]; exact hi) (by rw [hX.sc]; exact hl) (hsw X.env hX.sc) (ui hX tg iter) (by rw [hX.N, hX.sc]; exact blkOk_by h.ok) (fun s H A cl fp => ug (cx_blk hX s H scope A cl fp) tg) (fun s H A cl fp => up (cx_blk hX s H scope A cl fp) ifs) (fun s H A cl fp => ue (cx_blk hX s H scope A cl fp) elt) (h.hf X.env))
    fun I H adr σ D s q => h.run I H adr σ _ s fun v I1 H1 adr1 s1 g1 v1 => q I1 H1 adr1 _ (s1.set v1) g1
theorem LC.froz {scope : Scope} {own : List (Str × Nat)} {ifs : List Expr} {n : Nat} {ds : List D} (h : LC C elt tg iter ifs scope own E M (.adr n) (M' ++ [some (ds.map .dat)])) (hfr : ∀ {t : TE}, Ev t E M (.adr n) (M' ++ [some (ds.map .dat)]) → Ev t E M (.dat (.lst ds)) M') : LC C elt tg iter ifs scope own E M (.dat (.lst ds)) M' := ⟨h.ok, h.nd, h.hf, hfr h.run⟩
theorem LC.gen {scope : Scope} {own : List (Str × Nat)} {ifs : List Expr} {n : Nat} {it : Nat → O} {inv : Mem → Prop} {A : Nat → Mem} {acc : Nat → List O} (ok : blkC C.N C.sc scope own = true) (nd : C.N.Nodup) (hs : EI C tg iter E M n it M1 inv)
    (hA : A 0 = M1 ++ [some []]) (ha : acc 0 = []) (hinv : ∀ i, i ≤ n → inv (A i))
    (step : ∀ i, i < n → ∃ Ex Ma b Mb, EGv (C.blk scope) (own.map (·.2)) tg (it i) (wipeE E (own.map (·.2))) (A i) Ex Ma ∧ EP (C.blk scope) ifs Ex Ma b Mb ∧
      ((b = true ∧ ∃ o Mc, EV (C.blk scope) elt Ex Mb o Mc ∧ Mc[M1.length]? = some (some (acc i)) ∧ (acc i).length < 100000 ∧ A (i + 1) = Mc.set M1.length (some (acc i ++ [o])) ∧ acc (i + 1) = acc i ++ [o]) ∨
       (b = false ∧ A (i + 1) = Mb ∧ acc (i + 1) = acc i)))
    (hf : ∀ env x, foldedSetIterable iter env x = pure x := by intro _ _; rfl) : LC C elt tg iter ifs scope own E M (.adr M1.length) (A n) := by
  refine ⟨ok, nd, hf, fun I H adr σ Q s q => ?_⟩
  · refine hs I H adr σ _ s fun J I1 H1 adr1 s1 g1 hr Dl hD => ?_
    obtain ⟨s2, g2, atD⟩ := s1.cel hD (os := []) .nil
    rw [← hA] at s2
    refine ⟨fun i μ H' => i ≤ n ∧ μ = n - i ∧ ∃ I3 adr3, Stt I3 H' adr3 σ E (A i) ∧ Grow I1 (upd H1 Dl (.lst [])) (adr1 ++ [Dl]) I3 H' adr3, ⟨n, Nat.zero_le _, by omega, I1, _, s2, Grow.refl⟩, ?_⟩
    rintro i μ H3 ⟨hi, rfl, I3, adr3, s3, g3⟩
    obtain ⟨st, go⟩ := hr I3 H3 adr3 σ E (A i) s3 (g2.trans g3) (hinv i hi)
    by_cases him : i < n
    · obtain ⟨Ea, Ma, b, Mb, hg, hp, hb⟩ := step i him
      obtain ⟨g0, gy⟩ := go i him
      refine .inr ⟨g0, fun H'' => ∃ I4 adr4, Stt I4 H'' adr4 σ E (A (i + 1)) ∧ Grow I1 (upd H1 Dl (.lst [])) (adr1 ++ [Dl]) I4 H'' adr4, fun H'' hN => ⟨n - (i + 1), by omega, by omega, rfl, hN⟩, fun x H4 hy => ?_⟩
      obtain ⟨I4, s4, g4, v4⟩ := gy x H4 hy
      refine hg I4 H4 adr3 _ x _ (s4.wipe _) v4 fun I5 H5 adr5 σ5 s5 g5 l5 f5 => ⟨?_, ?_⟩
      · rw [wipe_eq l5 f5]
        exact wipe_eq (wipe_length _ _) fun i hi => wipe_get _ _ _ hi
      · refine hp I5 H5 adr5 σ5 _ s5 fun I6 H6 adr6 s6 g6 => ?_
        rcases hb with ⟨rfl, o, Mc, he, hc, hz, hA1, ha1⟩ | ⟨rfl, hA1, ha1⟩
        · rw [if_pos rfl]
          refine he I6 H6 adr6 σ5 _ s6 fun y I7 H7 adr7 s7 g7 y7 => ?_
          have gAll := (((g3.trans g4).trans g5).trans g6).trans g7
          have hD7 : adr7[M1.length]? = some Dl := gAll.get atD
          obtain ⟨_, xs, hx1, hx2⟩ := s7.sto.cell M1.length Dl (acc i) hD7 hc
          have hlen := hx2.length
          refine ⟨xs, hx1, by rw [← hlen]; exact sz_lt hz, ?_⟩
          obtain ⟨s8, g8⟩ := s7.wri hD7 hc (Vs.app hx2 (.cons y7 .nil))
          rw [← hA1] at s8
          exact ⟨I7, adr7, s3.mono ((((g4.trans g5).trans g6).trans g7).trans g8) s8.ex s8.sto, gAll.trans g8⟩
        · rw [if_neg Bool.false_ne_true]
          have gAll := ((g3.trans g4).trans g5).trans g6
          rw [← hA1] at s6
          exact ⟨I6, adr6, s3.mono ((g4.trans g5).trans g6) s6.ex s6.sto, gAll⟩
    · have e : i = n := by omega
      subst e
      exact .inl ⟨st, q _ I3 H3 adr3 s3 ((g1.trans g2).trans g3) ⟨Dl, g3.get atD, rfl⟩⟩

/-- no cell's content leans on newer cells -/
def OkM (M M' : Mem) : Prop := ∀ (k : Nat) (os : List O), M'[k]? = some (some os) → M[k]? = some (some os) ∨ ∃ ds : List D, os = ds.map .dat
theorem OkM.refl : OkM M M := fun _ _ h => .inl h
theorem OkM.nil : OkM M [] := fun _ _ h => by simp at h
theorem OkM.dat {c : Option (List O)} {ds : List D} (h : OkM M M') : OkM (c :: M) (some (ds.map .dat) :: M') := fun k os q => by
  cases k with
  | zero => exact .inr ⟨ds, (Option.some.inj (Option.some.inj q)).symm⟩
  | succ k => exact h k os q
theorem OkM.same {c : Option (List O)} (h : OkM M M') : OkM (c :: M) (c :: M') := fun k os q => by
  cases k with
  | zero => exact .inl q
  | succ k => exact h k os q
theorem low_vs {I : Hp} {adr adr' : List Addr} {n : Nat} (h : ∀ (k : Nat) (a : Addr), adr[k]? = some a → adr'[k]? = some a) : ∀ {os : List O} {xs : List V}, Vs I adr os xs → ∃ vs : List V, True
  | _, _, _ => ⟨[], True.intro⟩
/-- contents that are valid ahead of a growth lean on no newer cell -/
theorem vo_low {I I' : Hp} {adr adr' : List Addr} {v w : V} : ∀ {o : O}, Vo I adr o v → Vo I' adr' o w → (∀ (k : Nat) (a : Addr), adr[k]? = some a → adr'[k]? = some a) → Vo I' adr o w
  | .no, _, _, _ => True.intro
  | .dat _, _, h, _ => h
  | .scr _ _, _, h, _ => h
  | .adr k, h, h', f => by
    obtain ⟨a, h1, _⟩ := h
    obtain ⟨a', h2, h3⟩ := h'
    rw [f k a h1] at h2
    cases h2
    exact ⟨a, h1, h3⟩
theorem vs_low {I I' : Hp} {adr adr' : List Addr} (f : ∀ (k : Nat) (a : Addr), adr[k]? = some a → adr'[k]? = some a) : ∀ {os : List O} {xs ys : List V}, Vs I adr os xs → Vs I' adr' os ys → Vs I' adr os ys
  | _, _, _, .nil, .nil => .nil
  | _, _, _, .cons h r, .cons h' r' => .cons (vo_low h h' f) (vs_low f r r')
theorem Ev.froz {t : TE} {n : Nat} {ds : List D} (h : Ev t E M (.adr n) (M' ++ [some (ds.map .dat)])) (hn : n = M'.length) (hl : M.length ≤ M'.length) (ok : OkM M M') : Ev t E M (.dat (.lst ds)) M' := fun I H adr σ Q s q => by
  refine h I H adr σ Q s fun v I1 H1 adr1 s1 g1 v1 => ?_
  obtain ⟨p, hp, rfl⟩ := v1
  obtain ⟨nw, rfl, fr⟩ := g1.new
  have hlen := s1.sto.len
  rw [List.length_append, List.length_append, List.length_singleton] at hlen
  have hl0 := s.sto.len
  have hcell : (M' ++ [some (ds.map O.dat)])[n]? = some (some (ds.map .dat)) := by
    rw [hn, List.getElem?_append_right (Nat.le_refl _), Nat.sub_self]
    rfl
  obtain ⟨hi, xs, hx1, hx2⟩ := s1.sto.cell n p _ hp hcell
  have hne : nw ≠ [] := fun z => by
    subst z
    simp at hlen
    omega
  -- the last address is p
  have hnw : nw = nw.dropLast ++ [p] := by
    have e1 : (adr ++ nw)[n]? = nw[nw.length - 1]? := by
      rw [List.getElem?_append_right (by omega)]
      congr 1
      omega
    rw [hp] at e1
    have e2 : nw.getLast hne = p := by
      rw [List.getLast_eq_getElem]
      have := (List.getElem?_eq_some_iff.mp e1.symm).2
      exact this
    rw [← e2]
    exact (List.dropLast_concat_getLast hne).symm
  have hdl : (adr ++ nw) = (adr ++ nw.dropLast) ++ [p] := by
    rw [List.append_assoc, ← hnw]
  have hlen2 : (adr ++ nw.dropLast).length = M'.length := by
    rw [List.length_append, List.length_dropLast]
    have : nw.length ≠ 0 := fun z => hne (List.eq_nil_of_length_eq_zero z)
    omega
  have sub : ∀ (k : Nat) (a : Addr), (adr ++ nw.dropLast)[k]? = some a → (adr ++ nw)[k]? = some a := fun k a hk => by
    rw [hdl, List.getElem?_append_left (List.getElem?_eq_some_iff.mp hk).1]
    exact hk
  have sub0 : ∀ (k : Nat) (a : Addr), adr[k]? = some a → (adr ++ nw)[k]? = some a := fun k a hk => by
    rw [List.getElem?_append_left (List.getElem?_eq_some_iff.mp hk).1]
    exact hk
  have ndp : p ∉ adr ++ nw.dropLast := by
    have nd1 := s1.sto.nd
    rw [hdl, List.nodup_append] at nd1
    intro z
    exact nd1.2.2 p z p (by simp) rfl
  have pin : p ∈ nw := by
    rw [hnw]
    simp
  have ex1 : Ex I1 (upd I1 p (.lst xs)) := Ex.new hi
  have ex2 : Ex (upd I1 p (.lst xs)) H1 := fun a u z => by
    by_cases e : a = p
    · subst e
      rw [upd_same] at z
      cases z
      exact hx1
    · rw [upd_ne e] at z
      exact s1.ex a u z
  have g2 : Grow I H adr (upd I1 p (.lst xs)) H1 (adr ++ nw.dropLast) := by
    refine ⟨g1.ex.trans ex1, ⟨nw.dropLast, rfl, fun a ha => fr a ((List.dropLast_sublist nw).subset ha)⟩, g1.keep, g1.dom, fun a u h1 h2 h3 => ?_⟩
    have : a ≠ p := fun z => by
      rw [z, fr p pin] at h1
      cases h1
    rw [upd_ne this]
    exact g1.out a u h1 h2 h3
  have sto2 : Sto (upd I1 p (.lst xs)) H1 (adr ++ nw.dropLast) M' := by
    refine ⟨hlen2, ?_, fun k a os h1 h2 => ?_, fun k a h1 => s1.sto.dom k a (sub k a h1)⟩
    · have nd1 := s1.sto.nd
      rw [hdl, List.nodup_append] at nd1
      exact nd1.1
    · have hk : k < M'.length := (List.getElem?_eq_some_iff.mp h2).1
      have h3 : (M' ++ [some (ds.map O.dat)])[k]? = some (some os) := by
        rw [List.getElem?_append_left hk]
        exact h2
      obtain ⟨c1, ys, c2, c3⟩ := s1.sto.cell k a os (sub k a h1) h3
      have na : a ≠ p := fun z => ndp (by rw [← z]; exact List.mem_of_getElem? h1)
      refine ⟨by rw [upd_ne na]; exact c1, ys, c2, Vs.ext ex1 ?_⟩
      rcases ok k os h2 with hm | ⟨es, rfl⟩
      · have hk2 : k < adr.length := by
          rw [hl0]
          exact (List.getElem?_eq_some_iff.mp hm).1
        obtain ⟨_, zs, _, z3⟩ := s.sto.cell k adr[k] os (List.getElem?_eq_getElem hk2) hm
        exact (vs_low sub0 z3 c3).more
      · exact Vs.reps c3.to
  exact q _ _ H1 _ (s.mono g2 ex2 sto2) g2 (.lst upd_same (hx2.to.mono ex1))
end
end Ab
/-! Ab: the forms one uses. -/
namespace Ab
open PySem PySem.Spec PyProof.Rows L2
section
variable {C : Cc} {E E1 E2 E' : List O} {M M1 M2 M3 M' : Mem} {o o1 o2 o3 : O} {os : List O} {e a b c tg iter elt : Expr} {es : List Expr} {pos pos' p apos : Pos} {d d1 d2 : D} {i j : Int} {k k' : Bool} {r : Out} {body : List Stmt} {vs : List Nat} {scope : Scope} {own : List (Str × Nat)} {ifs : List Expr} {x : Str}

/-! ### comprehensions -/
theorem getE_append {α : Type} {l : List α} {x : α} : (l ++ [x])[l.length]? = some x := by
  rw [List.getElem?_append_right (Nat.le_refl _), Nat.sub_self]
  rfl
theorem set_append {α : Type} {l : List α} {x y : α} : (l ++ [x]).set l.length y = l ++ [y] := by
  rw [List.set_append_right _ _ (Nat.le_refl _), Nat.sub_self]
  rfl
/-- pure elements, the list a cell -/
theorem LC.lPC {n : Nat} {it : Nat → O} {inv : Mem → Prop} {v : Nat → D} {f : Nat → Bool} (ok : blkC C.N C.sc scope own = true) (nd : C.N.Nodup) (hs : EI C tg iter E M n it M1 inv) (hinv : ∀ c, inv (M1 ++ [c])) (hn : n < 100000)
    (step : ∀ i, i < n → ∃ Ex, (∀ M, EGv (C.blk scope) (own.map (·.2)) tg (it i) (wipeE E (own.map (·.2))) M Ex M) ∧ (∀ M, EP (C.blk scope) ifs Ex M (f i) M) ∧ (f i = true → ∀ M, EV (C.blk scope) elt Ex M (.dat (v i)) M))
    (hf : ∀ env x, foldedSetIterable iter env x = pure x := by intro _ _; rfl) : LC C elt tg iter ifs scope own E M (.adr M1.length) (M1 ++ [some ((((List.range n).filter f).map v).map .dat)]) := by
  refine LC.gen (A := fun i => M1 ++ [some ((((List.range i).filter f).map v).map .dat)]) (acc := fun i => (((List.range i).filter f).map v).map .dat) ok nd hs rfl rfl (fun i _ => hinv _) (fun i hi => ?_) hf
  obtain ⟨Ex, h1, h2, h3⟩ := step i hi
  refine ⟨Ex, _, f i, _, h1 _, h2 _, ?_⟩
  cases hb : f i with
  | true =>
    refine .inl ⟨rfl, .dat (v i), _, h3 hb _, getE_append, ?_, ?_, ?_⟩
    · rw [List.length_map, List.length_map]
      have := List.length_filter_le f (List.range i)
      rw [List.length_range] at this
      omega
    · show M1 ++ [some ((((List.range (i + 1)).filter f).map v).map O.dat)] = _
      rw [set_append, List.range_succ, List.filter_append, List.map_append, List.map_append, List.filter_cons, if_pos hb]
      rfl
    · show (((List.range (i + 1)).filter f).map v).map O.dat = _
      rw [List.range_succ, List.filter_append, List.map_append, List.map_append, List.filter_cons, if_pos hb]
      rfl
  | false =>
    have e : (((List.range (i + 1)).filter f).map v).map O.dat = (((List.range i).filter f).map v).map O.dat := by
      rw [List.range_succ, List.filter_append, List.map_append, List.map_append, List.filter_cons, if_neg (by rw [hb]; decide)]
      exact List.append_nil _
    refine .inr ⟨rfl, ?_, ?_⟩
    · show M1 ++ [some ((((List.range (i + 1)).filter f).map v).map O.dat)] = _
      rw [e]
    · exact e
theorem LC.lPF {n : Nat} {it : Nat → O} {inv : Mem → Prop} {v : Nat → D} {f : Nat → Bool} (ok : blkC C.N C.sc scope own = true) (nd : C.N.Nodup) (hs : EI C tg iter E M n it M1 inv) (hinv : ∀ c, inv (M1 ++ [c])) (hn : n < 100000) (hl : M.length ≤ M1.length) (hok : OkM M M1)
    (step : ∀ i, i < n → ∃ Ex, (∀ M, EGv (C.blk scope) (own.map (·.2)) tg (it i) (wipeE E (own.map (·.2))) M Ex M) ∧ (∀ M, EP (C.blk scope) ifs Ex M (f i) M) ∧ (f i = true → ∀ M, EV (C.blk scope) elt Ex M (.dat (v i)) M))
    (hf : ∀ env x, foldedSetIterable iter env x = pure x := by intro _ _; rfl) : LC C elt tg iter ifs scope own E M (.dat (.lst (((List.range n).filter f).map v))) M1 :=
  LC.froz (LC.lPC ok nd hs hinv hn step hf) fun h => Ev.froz h rfl hl hok
/-- elements that turn cells -/
theorem LC.lSC {n : Nat} {it : Nat → O} {inv : Mem → Prop} {v : Nat → D} {M_ : Nat → Mem} (ok : blkC C.N C.sc scope own = true) (nd : C.N.Nodup) (hs : EI C tg iter E M n it M1 inv) (h0 : M_ 0 = M1) (hlen : ∀ i, i ≤ n → (M_ i).length = M1.length) (hinv : ∀ i, i ≤ n → ∀ c, inv (M_ i ++ [c])) (hn : n < 100000)
    (step : ∀ i, i < n → ∃ Ex, (∀ M, EGv (C.blk scope) (own.map (·.2)) tg (it i) (wipeE E (own.map (·.2))) M Ex M) ∧ ∀ c, EV (C.blk scope) elt Ex (M_ i ++ [c]) (.dat (v i)) (M_ (i + 1) ++ [c]))
    (hf : ∀ env x, foldedSetIterable iter env x = pure x := by intro _ _; rfl) : LC C elt tg iter [] scope own E M (.adr M1.length) (M_ n ++ [some (((List.range n).map v).map .dat)]) := by
  refine LC.gen (A := fun i => M_ i ++ [some (((List.range i).map v).map .dat)]) (acc := fun i => ((List.range i).map v).map .dat) ok nd hs (by rw [h0]; rfl) rfl (fun i hi => hinv i hi _) (fun i hi => ?_) hf
  obtain ⟨Ex, h1, h3⟩ := step i hi
  refine ⟨Ex, _, true, _, h1 _, EP.nil, .inl ⟨rfl, .dat (v i), _, h3 _, ?_, ?_, ?_, ?_⟩⟩
  · rw [← hlen (i + 1) hi]
    exact getE_append
  · rw [List.length_map, List.length_map, List.length_range]
    omega
  · show M_ (i + 1) ++ [some (((List.range (i + 1)).map v).map O.dat)] = _
    rw [← hlen (i + 1) hi, set_append, List.range_succ, List.map_append, List.map_append]
    rfl
  · show ((List.range (i + 1)).map v).map O.dat = _
    rw [List.range_succ, List.map_append, List.map_append]
    rfl
theorem LC.lS {n : Nat} {it : Nat → O} {inv : Mem → Prop} {v : Nat → D} {M_ : Nat → Mem} (ok : blkC C.N C.sc scope own = true) (nd : C.N.Nodup) (hs : EI C tg iter E M n it M1 inv) (h0 : M_ 0 = M1) (hlen : ∀ i, i ≤ n → (M_ i).length = M1.length) (hinv : ∀ i, i ≤ n → ∀ c, inv (M_ i ++ [c])) (hn : n < 100000) (hl : M.length ≤ M1.length) (hok : OkM M (M_ n))
    (step : ∀ i, i < n → ∃ Ex, (∀ M, EGv (C.blk scope) (own.map (·.2)) tg (it i) (wipeE E (own.map (·.2))) M Ex M) ∧ ∀ c, EV (C.blk scope) elt Ex (M_ i ++ [c]) (.dat (v i)) (M_ (i + 1) ++ [c]))
    (hf : ∀ env x, foldedSetIterable iter env x = pure x := by intro _ _; rfl) : LC C elt tg iter [] scope own E M (.dat (.lst ((List.range n).map v))) (M_ n) :=
  LC.froz (LC.lSC ok nd hs h0 hlen hinv hn step hf) fun h => Ev.froz h (hlen n (Nat.le_refl n)).symm (by rw [hlen n (Nat.le_refl n)]; exact hl) hok
theorem range_getD {α : Type} (d0 : α) : ∀ (xs : List α), (List.range xs.length).map (fun i => xs.getD i d0) = xs := fun xs => by
  refine List.ext_getElem? fun i => ?_
  rw [List.getElem?_map]
  by_cases hi : i < xs.length
  · rw [List.getElem?_range hi, List.getElem?_eq_getElem hi]
    show some (xs.getD i d0) = _
    rw [List.getD_eq_getElem?_getD, List.getElem?_eq_getElem hi]
    rfl
  · rw [List.getElem?_eq_none (by rw [List.length_range]; exact Nat.le_of_not_lt hi), List.getElem?_eq_none (Nat.le_of_not_lt hi)]
    rfl
theorem atO_map {α : Type} {f : α → D} {xs : List α} {i : Nat} (h : i < xs.length) : atO (xs.map f) i = .dat (f xs[i]) := by
  unfold atO
  rw [List.getD_eq_getElem?_getD, List.getElem?_map, List.getElem?_eq_getElem h]
  rfl
/-- [elt for x in xs], xs a list or tuple of the f of some α -/
theorem LC.lM {α : Type} (jx : Nat) {xs : List α} {f g : α → D} (ok : blkC C.N C.sc scope own = true) (nd : C.N.Nodup) (ho : own.map (·.2) = [jx]) (h : EV C iter E M (.dat d) M1) (hd : seqD d = some (xs.map f)) (hl : M.length ≤ M1.length) (hok : OkM M M1) (hz : xs.length < 100000)
    (step : ∀ y ∈ xs, ∀ M, EV (C.blk scope) elt ((wipeE E [jx]).set jx (.dat (f y))) M (.dat (g y)) M) (hi : C.N[jx]? = some x := by rfl) (hx : Loc (C.blk scope).sc x := by first | exact Or.inl rfl | exact Or.inr rfl) (hf' : (C.blk scope).fn x = true ∨ (C.blk scope).sc.names.lookup x = some .local := by first | exact .inl rfl | exact .inr rfl)
    (hf : ∀ env x, foldedSetIterable iter env x = pure x := by intro _ _; rfl) : LC C elt (.Name x p) iter [] scope own E M (.dat (.lst (xs.map g))) M1 := by
  have hlen : (xs.map f).length = xs.length := List.length_map _
  have key := LC.lPF (tg := .Name x p) (elt := elt) (ifs := []) (scope := scope) (own := own) (n := (xs.map f).length) (v := fun i => (xs.map g).getD i .non) (f := fun _ => true) ok nd (EI.seq h hd) (fun _ => True.intro) (by omega) hl hok (fun i hi' => by
    rw [hlen] at hi'
    refine ⟨_, fun M => EGv.nm jx nd (by rw [ho]; simp) hi hx hf', fun M => EP.nil, fun _ M => ?_⟩
    rw [ho, atO_map hi']
    have e : (xs.map g).getD i .non = g xs[i] := by
      rw [List.getD_eq_getElem?_getD, List.getElem?_map, List.getElem?_eq_getElem hi']
      rfl
    rw [e]
    exact step _ (List.getElem_mem hi') M) hf
  have e2 : ((List.range (xs.map f).length).filter fun _ => true).map (fun i => (xs.map g).getD i D.non) = xs.map g := by
    rw [List.filter_eq_self.mpr (fun _ _ => rfl), hlen, ← List.length_map g]
    exact range_getD _ _
  rw [e2] at key
  exact key
theorem filt_getD {α β : Type} (d0 : β) (t : α → Bool) (g : α → β) : ∀ xs : List α, ((List.range xs.length).filter fun i => (xs.map t).getD i false).map (fun i => (xs.map g).getD i d0) = (xs.filter t).map g
  | [] => rfl
  | y :: r => by
    have ih := filt_getD d0 t g r
    have e3 : ((fun i => ((y :: r).map t).getD i false) ∘ Nat.succ) = fun i => (r.map t).getD i false := by
      funext i
      simp [List.getD_eq_getElem?_getD]
    have e4 : ((fun i => ((y :: r).map g).getD i d0) ∘ Nat.succ) = fun i => (r.map g).getD i d0 := by
      funext i
      simp [List.getD_eq_getElem?_getD]
    rw [List.length_cons, List.range_succ_eq_map, List.filter_cons, List.filter_map, e3]
    have e5 : ((y :: r).map t).getD 0 false = t y := by simp [List.getD_eq_getElem?_getD]
    have e6 : ((y :: r).map g).getD 0 d0 = g y := by simp [List.getD_eq_getElem?_getD]
    rw [e5, List.filter_cons]
    by_cases hy : t y = true
    · rw [if_pos hy, if_pos hy]
      simp only [List.map_cons, List.map_map]
      rw [show (fun i => (List.map g (y :: r)).getD i d0) = fun i => (List.map g (y :: r)).getD i d0 from rfl] at *
      rw [← List.map_cons (f := g), e6, e4, ih]
    · rw [if_neg hy, if_neg hy, List.map_map, e4, ih]
/-- .. with a test -/
theorem LC.lMF {α : Type} (jx : Nat) {xs : List α} {f g : α → D} {t : α → Bool} (ok : blkC C.N C.sc scope own = true) (nd : C.N.Nodup) (ho : own.map (·.2) = [jx]) (h : EV C iter E M (.dat d) M1) (hd : seqD d = some (xs.map f)) (hl : M.length ≤ M1.length) (hok : OkM M M1) (hz : xs.length < 100000)
    (ht : ∀ y ∈ xs, ∀ M, ET (C.blk scope) c ((wipeE E [jx]).set jx (.dat (f y))) M (t y) M)
    (step : ∀ y ∈ xs, t y = true → ∀ M, EV (C.blk scope) elt ((wipeE E [jx]).set jx (.dat (f y))) M (.dat (g y)) M) (hi : C.N[jx]? = some x := by rfl) (hx : Loc (C.blk scope).sc x := by first | exact Or.inl rfl | exact Or.inr rfl) (hf' : (C.blk scope).fn x = true ∨ (C.blk scope).sc.names.lookup x = some .local := by first | exact .inl rfl | exact .inr rfl)
    (hf : ∀ env x, foldedSetIterable iter env x = pure x := by intro _ _; rfl) : LC C elt (.Name x p) iter [c] scope own E M (.dat (.lst ((xs.filter t).map g))) M1 := by
  have hlen : (xs.map f).length = xs.length := List.length_map _
  have key := LC.lPF (tg := .Name x p) (elt := elt) (ifs := [c]) (scope := scope) (own := own) (n := (xs.map f).length) (v := fun i => (xs.map g).getD i .non) (f := fun i => (xs.map t).getD i false) ok nd (EI.seq h hd) (fun _ => True.intro) (by omega) hl hok (fun i hi' => by
    rw [hlen] at hi'
    have e0 : (xs.map t).getD i false = t xs[i] := by
      rw [List.getD_eq_getElem?_getD, List.getElem?_map, List.getElem?_eq_getElem hi']
      rfl
    refine ⟨_, fun M => EGv.nm jx nd (by rw [ho]; simp) hi hx hf', fun M => ?_, fun hb M => ?_⟩
    · rw [ho, atO_map hi', e0]
      exact EP.one (ht _ (List.getElem_mem hi') M)
    · rw [ho, atO_map hi']
      have e : (xs.map g).getD i .non = g xs[i] := by
        rw [List.getD_eq_getElem?_getD, List.getElem?_map, List.getElem?_eq_getElem hi']
        rfl
      rw [e]
      rw [e0] at hb
      exact step _ (List.getElem_mem hi') hb M) hf
  have e2 : ((List.range (xs.map f).length).filter fun i => (xs.map t).getD i false).map (fun i => (xs.map g).getD i D.non) = (xs.filter t).map g := by
    rw [hlen]
    exact filt_getD _ _ _ _
  rw [e2] at key
  exact key
theorem atI0_eq {n : Nat} : atI0 0 n = .dat (.int (n : Int)) := by
  unfold atI0
  rw [Int.zero_add]
/-- [elt for x in range(j)] -/
theorem LC.lR (jx : Nat) {y : Str} {q : Pos} {qs : Pos} {g : Nat → D} (ok : blkC C.N C.sc scope own = true) (nd : C.N.Nodup) (ho : own.map (·.2) = [jx]) (h : EV C a E M (.dat (.int j)) M1) (hm : Bt C.g "range") (hl : M.length ≤ M1.length) (hok : OkM M M1) (hz : j < 100000 ∧ -100000 < j)
    (step : ∀ i, i < j.toNat → ∀ M, EV (C.blk scope) elt ((wipeE E [jx]).set jx (.dat (.int (i : Int)))) M (.dat (g i)) M) (hy : y = "range" := by rfl) (hg : C.sc.names.lookup y = some .globalImplicit := by rfl) (hs : ∀ env, starEach [a] env = [(false, eval a env)] := by intro _; rfl)
    (hi : C.N[jx]? = some x := by rfl) (hx : Loc (C.blk scope).sc x := by first | exact Or.inl rfl | exact Or.inr rfl) (hf' : (C.blk scope).fn x = true ∨ (C.blk scope).sc.names.lookup x = some .local := by first | exact .inl rfl | exact .inr rfl)
    (hf : ∀ env x, foldedSetIterable (.Call (.Name y q) [a] [] qs) env x = pure x := by intro _ _; rfl) : LC C elt (.Name x p) (.Call (.Name y q) [a] [] qs) [] scope own E M (.dat (.lst ((List.range j.toNat).map g))) M1 := by
  have key := LC.lPF (tg := .Name x p) (elt := elt) (ifs := []) (scope := scope) (own := own) (n := j.toNat) (v := g) (f := fun _ => true) ok nd (EI.rng1 (x := y) (p := q) (pos := qs) h hm (by omega) hy hg hs) (fun _ => True.intro) (by omega) hl hok (fun i hi' => by
    refine ⟨_, fun M => EGv.nm jx nd (by rw [ho]; simp) hi hx hf', fun M => EP.nil, fun _ M => ?_⟩
    rw [ho, atI0_eq]
    exact step i hi' M) hf
  rw [List.filter_eq_self.mpr (fun _ _ => rfl)] at key
  exact key
/-- [elt for x in range(j)], each element turns cells; the list a datum -/
theorem LC.lRS (jx : Nat) {y : Str} {q : Pos} {qs : Pos} {v : Nat → D} {M_ : Nat → Mem} (ok : blkC C.N C.sc scope own = true) (nd : C.N.Nodup) (ho : own.map (·.2) = [jx]) (h : EV C a E M (.dat (.int j)) M1) (hm : Bt C.g "range") (h0 : M_ 0 = M1) (hlen : ∀ i, i ≤ j.toNat → (M_ i).length = M1.length) (hl : M.length ≤ M1.length) (hok : OkM M (M_ j.toNat)) (hz : j < 100000 ∧ -100000 < j)
    (step : ∀ i, i < j.toNat → ∀ c, EV (C.blk scope) elt ((wipeE E [jx]).set jx (.dat (.int (i : Int)))) (M_ i ++ [c]) (.dat (v i)) (M_ (i + 1) ++ [c])) (hy : y = "range" := by rfl) (hg : C.sc.names.lookup y = some .globalImplicit := by rfl) (hs : ∀ env, starEach [a] env = [(false, eval a env)] := by intro _; rfl)
    (hi : C.N[jx]? = some x := by rfl) (hx : Loc (C.blk scope).sc x := by first | exact Or.inl rfl | exact Or.inr rfl) (hf' : (C.blk scope).fn x = true ∨ (C.blk scope).sc.names.lookup x = some .local := by first | exact .inl rfl | exact .inr rfl)
    (hf : ∀ env x, foldedSetIterable (.Call (.Name y q) [a] [] qs) env x = pure x := by intro _ _; rfl) : LC C elt (.Name x p) (.Call (.Name y q) [a] [] qs) [] scope own E M (.dat (.lst ((List.range j.toNat).map v))) (M_ j.toNat) :=
  LC.lS ok nd (EI.rng1 (x := y) (p := q) (pos := qs) h hm (by omega) hy hg hs) h0 hlen (fun _ _ _ => True.intro) (by omega) hl hok (fun i hi' => ⟨_, fun M => EGv.nm jx nd (by rw [ho]; simp) hi hx hf', fun c => by
    rw [ho, atI0_eq]
    exact step i hi' c⟩) hf
/-- .. a cell -/
theorem LC.lRSC (jx : Nat) {y : Str} {q : Pos} {qs : Pos} {v : Nat → D} {M_ : Nat → Mem} (ok : blkC C.N C.sc scope own = true) (nd : C.N.Nodup) (ho : own.map (·.2) = [jx]) (h : EV C a E M (.dat (.int j)) M1) (hm : Bt C.g "range") (h0 : M_ 0 = M1) (hlen : ∀ i, i ≤ j.toNat → (M_ i).length = M1.length) (hz : j < 100000 ∧ -100000 < j)
    (step : ∀ i, i < j.toNat → ∀ c, EV (C.blk scope) elt ((wipeE E [jx]).set jx (.dat (.int (i : Int)))) (M_ i ++ [c]) (.dat (v i)) (M_ (i + 1) ++ [c])) (hy : y = "range" := by rfl) (hg : C.sc.names.lookup y = some .globalImplicit := by rfl) (hs : ∀ env, starEach [a] env = [(false, eval a env)] := by intro _; rfl)
    (hi : C.N[jx]? = some x := by rfl) (hx : Loc (C.blk scope).sc x := by first | exact Or.inl rfl | exact Or.inr rfl) (hf' : (C.blk scope).fn x = true ∨ (C.blk scope).sc.names.lookup x = some .local := by first | exact .inl rfl | exact .inr rfl)
    (hf : ∀ env x, foldedSetIterable (.Call (.Name y q) [a] [] qs) env x = pure x := by intro _ _; rfl) : LC C elt (.Name x p) (.Call (.Name y q) [a] [] qs) [] scope own E M (.adr M1.length) (M_ j.toNat ++ [some (((List.range j.toNat).map v).map .dat)]) :=
  LC.lSC ok nd (EI.rng1 (x := y) (p := q) (pos := qs) h hm (by omega) hy hg hs) h0 hlen (fun _ _ _ => True.intro) (by omega) (fun i hi' => ⟨_, fun M => EGv.nm jx nd (by rw [ho]; simp) hi hx hf', fun c => by
    rw [ho, atI0_eq]
    exact step i hi' c⟩) hf
/-- [elt for x, y in zip(xs, ys)] -/
theorem LC.lZ {α β : Type} (jx jy : Nat) {y z : Str} {q qs q1 q2 : Pos} {kk : Nat} {xs : List α} {ys : List β} {f1 : α → D} {f2 : β → D} {g : α → β → D} (ok : blkC C.N C.sc scope own = true) (nd : C.N.Nodup) (ho : own.map (·.2) = [jx, jy])
    (h1 : EV C a E M (.dat d1) M1) (h2 : EV C b E M1 (.dat d2) M2) (hd : (d1 = .tup (xs.map f1) ∧ d2 = .tup (ys.map f2)) ∨ (d1 = .lst (xs.map f1) ∧ d2 = .lst (ys.map f2))) (hm : Bt C.g "zip") (hl : M.length ≤ M2.length) (hok : OkM M M2) (hz : xs.length < 100000)
    (step : ∀ u ∈ xs, ∀ v ∈ ys, ∀ M, EV (C.blk scope) elt (((wipeE E [jx, jy]).set jx (.dat (f1 u))).set jy (.dat (f2 v))) M (.dat (g u v)) M)
    (hy : z = "zip" := by rfl) (hg : C.sc.names.lookup z = some .globalImplicit := by rfl) (hs : ∀ env, starEach [a, b] env = (false, eval a env) :: starEach [b] env := by intro _; rfl) (hs2 : ∀ env, starEach [b] env = (false, eval b env) :: starEach [] env := by intro _; rfl) (hpl : ∀ env, (backTo qs (starEach [b] env)).any (·.1) = false := by intro _; rfl)
    (hi : C.N[jx]? = some x := by rfl) (hi' : C.N[jy]? = some y := by rfl) (hx : Loc (C.blk scope).sc x := by first | exact Or.inl rfl | exact Or.inr rfl) (hx' : Loc (C.blk scope).sc y := by first | exact Or.inl rfl | exact Or.inr rfl)
    (hf' : (C.blk scope).fn x = true ∨ (C.blk scope).sc.names.lookup x = some .local := by first | exact .inl rfl | exact .inr rfl) (hf'' : (C.blk scope).fn y = true ∨ (C.blk scope).sc.names.lookup y = some .local := by first | exact .inl rfl | exact .inr rfl)
    (hf : ∀ env x, foldedSetIterable (.Call (.Name z q) [a, b] [] qs) env x = pure x := by intro _ _; rfl) : LC C elt (.Tuple [.Name x q1, .Name y q2] kk p) (.Call (.Name z q) [a, b] [] qs) [] scope own E M (.dat (.lst ((xs.zip ys).map fun u => g u.1 u.2))) M2 := by
  have hlen : min (xs.map f1).length (ys.map f2).length = (xs.zip ys).length := by rw [List.length_map, List.length_map, List.length_zip]
  have hle : (xs.zip ys).length ≤ xs.length := by rw [List.length_zip]; omega
  have key := LC.lPF (tg := .Tuple [.Name x q1, .Name y q2] kk p) (elt := elt) (ifs := []) (scope := scope) (own := own) (v := fun i => ((xs.zip ys).map fun u => g u.1 u.2).getD i .non) (f := fun _ => true) ok nd (EI.zip (p := q) (pos := qs) (elts := [.Name x q1, .Name y q2]) (kk := kk) (tp := p) h1 h2 hd hm hy hg hs hs2 hpl) (fun _ => True.intro) (by omega) hl hok (fun i hlt => by
    rw [hlen] at hlt
    have l1 : i < xs.length := by rw [List.length_zip] at hlt; omega
    have l2 : i < ys.length := by rw [List.length_zip] at hlt; omega
    refine ⟨((wipeE E (own.map (·.2))).set jx (.dat (f1 xs[i]))).set jy (.dat (f2 ys[i])), fun M => ?_, fun M => EP.nil, fun _ M => ?_⟩
    · have ez : atZ (xs.map f1) (ys.map f2) i = .dat (.tup [f1 xs[i], f2 ys[i]]) := by
        unfold atZ
        rw [List.getD_eq_getElem?_getD, List.getD_eq_getElem?_getD, List.getElem?_map, List.getElem?_map, List.getElem?_eq_getElem l1, List.getElem?_eq_getElem l2]
        rfl
      rw [ez]
      exact EGv.tup (EGvs.cons (EGv.nm jx nd (by rw [ho]; simp) hi hx hf') (EGvs.cons (EGv.nm jy nd (by rw [ho]; simp) hi' hx' hf'') EGvs.nil))
    · have e : ((xs.zip ys).map fun u => g u.1 u.2).getD i .non = g xs[i] ys[i] := by
        rw [List.getD_eq_getElem?_getD, List.getElem?_map, List.getElem?_eq_getElem hlt, List.getElem_zip]
        rfl
      rw [e, ho]
      exact step _ (List.getElem_mem l1) _ (List.getElem_mem l2) M) hf
  have e2 : ((List.range (min (xs.map f1).length (ys.map f2).length)).filter fun _ => true).map (fun i => ((xs.zip ys).map fun u => g u.1 u.2).getD i D.non) = (xs.zip ys).map fun u => g u.1 u.2 := by
    rw [List.filter_eq_self.mpr (fun _ _ => rfl), hlen, ← List.length_map (fun u : α × β => g u.1 u.2)]
    exact range_getD _ _
  rw [e2] at key
  exact key

/-! ### methods of cells -/
theorem EV.append {n : Nat} {ps ps1 : List O} (ho : EV C a E M (.adr n) M1) (hv : EV C b E M1 o M2) (hm1 : M1[n]? = some (some ps1)) (hm : M2[n]? = some (some ps)) (hz : ps.length < 100000)
    (hbase : ∀ env, attributeBase a "append" env (eval a env) = eval a env := by intro _; rfl)
    (hfew : ∀ env, ((backTo pos (starEach [b] env)).all (fun x => !x.1) && (backToKw pos (keywordEach [] env)).all (fun x => x.1.isSome) && decide ([b].length + ([] : List Keyword).length + (if ([] : List Keyword).isEmpty then 0 else 1) < 30)) = true := by intro _; rfl)
    (hline : (apos.endLine == pos.line) = true := by rfl) (hs : ∀ env, starEach [b] env = (false, eval b env) :: starEach [] env := by intro _; rfl) : EV C (.Call (.Attribute a "append" apos) [b] [] pos) E M (.dat .non) (M2.set n (some (ps ++ [o]))) :=
  EV.mk (t := tBM C.g.K "list" rAppend (UE C a) (tCons (UE C b) tNil)) (fun X hX => by
    have := pe_bm (apos := apos) (cpos := pos) PySem.F.plainAttrs_list PySem.F.slot_list_append PySem.F.type_list_append mt_append (ue hX a) (pa_cons (ue hX b) pa_nil (hs X.env)) (hbase X.env) (hfew X.env) hline (hs X.env) rfl
    rw [hX.K] at this
    exact this) fun I H adr σ Q s q => ho I H adr σ _ s fun v I1 H1 adr1 s1 g1 v1 => by
      obtain ⟨p, hp, rfl⟩ := v1
      obtain ⟨_, xs1, hx1, _⟩ := s1.sto.cell n p ps1 hp hm1
      refine ⟨.inl ⟨rfl, xs1, sql_uniq hx1⟩, hv I1 H1 adr1 σ _ s1 fun w I2 H2 adr2 s2 g2 w2 => ?_⟩
      obtain ⟨_, xs, hx, hr⟩ := s2.sto.cell n p ps (g2.get hp) hm
      obtain ⟨s3, g3⟩ := s2.wri (g2.get hp) hm (Vs.app hr (.cons w2 .nil))
      exact ⟨p, xs, w, rfl, rfl, hx, by rw [← hr.length]; exact sz_lt hz, q _ I2 _ adr2 s3 ((g1.trans g2).trans g3) .non⟩
theorem EV.pop {n : Nat} {ps : List O} (ho : EV C a E M (.adr n) M1) (hm : M1[n]? = some (some ps)) (hl : ps[ps.length - 1]? = some o)
    (hbase : ∀ env, attributeBase a "pop" env (eval a env) = eval a env := by intro _; rfl) (hline : (apos.endLine == pos.line) = true := by rfl) : EV C (.Call (.Attribute a "pop" apos) [] [] pos) E M o (M1.set n (some ps.dropLast)) :=
  EV.mk (t := tBM0 C.g.K "list" rPop (UE C a)) (fun X hX => by
    have := pe_bm0 (apos := apos) (cpos := pos) PySem.F.plainAttrs_list PySem.F.slot_list_pop PySem.F.type_list_pop mt_pop (ue hX a) (hbase X.env) hline
    rw [hX.K] at this
    exact this) fun I H adr σ Q s q => ho I H adr σ _ s fun v I1 H1 adr1 s1 g1 v1 => by
      obtain ⟨p, hp, rfl⟩ := v1
      obtain ⟨_, xs, hx, hr⟩ := s1.sto.cell n p ps hp hm
      obtain ⟨y, hy, vy⟩ := hr.get hl
      obtain ⟨s3, g3⟩ := s1.wri hp hm (Vs.dropLast hr)
      exact ⟨.inl ⟨rfl, xs, sql_uniq hx⟩, p, xs, y, rfl, rfl, hx, by rw [← hr.length]; exact hy, q _ I1 _ adr1 s3 (g1.trans g3) (Vo.mono g3 vy)⟩

/-! ### is, on bools -/
theorem CS.isB : CS C .Is (.dat (.bl k)) (.dat (.bl k')) M (.dat (.bl (decide (k = k')))) M := ⟨_, fun X _ => op_is_bl, fun I H adr σ E v w Q s hv hw q => by
  cases rep_bl hv
  cases rep_bl hw
  exact ⟨k, k', rfl, rfl, q _ I H adr s Grow.refl (.bl _)⟩⟩
theorem CS.isnotB : CS C .IsNot (.dat (.bl k)) (.dat (.bl k')) M (.dat (.bl (!decide (k = k')))) M := ⟨_, fun X _ => op_isnot_bl, fun I H adr σ E v w Q s hv hw q => by
  cases rep_bl hv
  cases rep_bl hw
  exact ⟨k, k', rfl, rfl, q _ I H adr s Grow.refl (.bl _)⟩⟩

/-! ### calls of defs -/
theorem EV.callG {R : Rel} {kf : Nat} {os0 : List O} {o0 : O} {M0 M0' : Mem} {ι : List Nat} (F : FN C.g x kf R) (ha : EA C (e :: es) E M os M1) (hR : R os0 M0 o0 M0') (ho : os = os0.map (·.ren (rho ι M1.length))) (mx : Mix ι M1 M0 M0' M2) (hk : Nat.ble kf C.k = true := by rfl)
    (hg : C.sc.names.lookup x = some .globalImplicit := by rfl) (hdb : (x == ("__debug__" : Str)) = false := by decide) (he : ∀ env, starEach (e :: es) env = (false, eval e env) :: starEach es env := by intro _; rfl) (hpl : ∀ env, (backTo pos (starEach es env)).any (·.1) = false := by intro _; rfl) :
    EV C (.Call (.Name x p) (e :: es) [] pos) E M (o0.ren (rho ι M1.length)) M2 := by
  obtain ⟨f, fd, ps, F, hm, hkp, hb⟩ := F
  refine EV.mk (t := tCall (spR R) [] E0 (UA C (e :: es))) (fun X hX => ?_) (ev_call ha hR ho mx)
  refine pe_call (k := kf) (f := f) (fd := fd) (ps := ps) (by rw [hX.P, hX.w, hX.K, hX.mg, hX.base]; exact F) (hX.room.mono (Nat.le_of_ble_eq_true hk)) (by show X.env.scope.names.lookup x = _; rw [hX.sc]; exact hg) (by rw [hX.mg]; exact hm) (by rw [hX.K]; exact hkp) (by rw [hX.K]; exact hb) .nil pass0 (ua hX _) hdb (he X.env) (hpl X.env)
theorem mix0 : Mix [] M [] [] M := ⟨rfl, List.nodup_nil, rfl, fun i k h => by simp at h, fun k os h => .inl ⟨by simp, h⟩⟩
theorem ren_dat {ρ : Nat → Nat} : ∀ ds : List D, (ds.map O.dat).map (·.ren ρ) = ds.map O.dat
  | [] => rfl
  | d :: ds => by
    show O.dat d :: _ = O.dat d :: _
    rw [ren_dat ds]
theorem mix1 {n : Nat} {ds ds' : List D} (h : M[n]? = some (some (ds.map .dat))) : Mix [n] M [some (ds.map .dat)] [some (ds'.map .dat)] (M.set n (some (ds'.map .dat))) := by
  refine ⟨rfl, by simp, by simp, fun i k hk => ?_, fun k os hk => ?_⟩
  · have hi : i = 0 := by
      have := (List.getElem?_eq_some_iff.mp hk).1
      simp at this
      exact this
    subst hi
    have : n = k := by simpa using hk
    subst this
    rw [h]
    show _ = some (some ((ds.map O.dat).map _))
    rw [ren_dat]
  · by_cases hn : k = n
    · subst hn
      rw [List.getElem?_set_self (List.getElem?_eq_some_iff.mp h).1] at hk
      refine .inr ⟨0, ds'.map .dat, rfl, .inl (by simp), rfl, ?_⟩
      rw [ren_dat]
      exact (Option.some.inj (Option.some.inj hk)).symm
    · rw [List.getElem?_set_ne (fun z => hn z.symm)] at hk
      exact .inl ⟨by simpa using hn, hk⟩
theorem mixN {ds : List D} : Mix [] M [] [some (ds.map .dat)] (M ++ [some (ds.map .dat)]) := by
  refine ⟨rfl, List.nodup_nil, by simp, fun i k h => by simp at h, fun k os hk => ?_⟩
  by_cases hn : k < M.length
  · rw [List.getElem?_append_left hn] at hk
    exact .inl ⟨by simp, hk⟩
  · rw [List.getElem?_append_right (Nat.le_of_not_lt hn)] at hk
    have h0 : k - M.length = 0 := by
      have := (List.getElem?_eq_some_iff.mp hk).1
      simp at this
      omega
    rw [h0] at hk
    refine .inr ⟨0, ds.map .dat, ?_, .inr (Nat.le_refl _), rfl, ?_⟩
    · show M.length + (0 - 0) = k
      omega
    · rw [ren_dat]
      exact (Option.some.inj (Option.some.inj hk)).symm
theorem mix1N {n : Nat} {ds ds' es : List D} (h : M[n]? = some (some (ds.map .dat))) : Mix [n] M [some (ds.map .dat)] [some (ds'.map .dat), some (es.map .dat)] (M.set n (some (ds'.map .dat)) ++ [some (es.map .dat)]) := by
  refine ⟨rfl, by simp, by simp, fun i k hk => ?_, fun k os hk => ?_⟩
  · have hi : i = 0 := by
      have := (List.getElem?_eq_some_iff.mp hk).1
      simp at this
      exact this
    subst hi
    have : n = k := by simpa using hk
    subst this
    rw [h]
    show _ = some (some ((ds.map O.dat).map _))
    rw [ren_dat]
  · have hnl : n < M.length := (List.getElem?_eq_some_iff.mp h).1
    by_cases hlt : k < M.length
    · rw [List.getElem?_append_left (by rw [List.length_set]; exact hlt)] at hk
      by_cases hn : k = n
      · subst hn
        rw [List.getElem?_set_self hnl] at hk
        refine .inr ⟨0, ds'.map .dat, rfl, .inl (by simp), rfl, ?_⟩
        rw [ren_dat]
        exact (Option.some.inj (Option.some.inj hk)).symm
      · rw [List.getElem?_set_ne (fun z => hn z.symm)] at hk
        exact .inl ⟨by simpa using hn, hk⟩
    · rw [List.getElem?_append_right (by rw [List.length_set]; exact Nat.le_of_not_lt hlt), List.length_set] at hk
      have h0 : k - M.length = 0 := by
        have := (List.getElem?_eq_some_iff.mp hk).1
        simp at this
        omega
      rw [h0] at hk
      refine .inr ⟨1, es.map .dat, ?_, .inr (by simp), rfl, ?_⟩
      · show M.length + (1 - 1) = k
        omega
      · rw [ren_dat]
        exact (Option.some.inj (Option.some.inj hk)).symm
/-- a def of data alone -/
theorem EV.call {R : Rel} {kf : Nat} {ds : List D} (F : FN C.g x kf R) (ha : EA C (e :: es) E M (ds.map .dat) M1) (hR : R (ds.map .dat) [] (.dat d) []) (hk : Nat.ble kf C.k = true := by rfl)
    (hg : C.sc.names.lookup x = some .globalImplicit := by rfl) (hdb : (x == ("__debug__" : Str)) = false := by decide) (he : ∀ env, starEach (e :: es) env = (false, eval e env) :: starEach es env := by intro _; rfl) (hpl : ∀ env, (backTo pos (starEach es env)).any (·.1) = false := by intro _; rfl) :
    EV C (.Call (.Name x p) (e :: es) [] pos) E M (.dat d) M1 := EV.callG (ι := []) F ha hR (by rw [ren_dat]) mix0 hk hg hdb he hpl
/-- .. that hands back a new list -/
theorem EV.callN {R : Rel} {kf : Nat} {ds fs : List D} (F : FN C.g x kf R) (ha : EA C (e :: es) E M (ds.map .dat) M1) (hR : R (ds.map .dat) [] (.adr 0) [some (fs.map .dat)]) (hk : Nat.ble kf C.k = true := by rfl)
    (hg : C.sc.names.lookup x = some .globalImplicit := by rfl) (hdb : (x == ("__debug__" : Str)) = false := by decide) (he : ∀ env, starEach (e :: es) env = (false, eval e env) :: starEach es env := by intro _; rfl) (hpl : ∀ env, (backTo pos (starEach es env)).any (·.1) = false := by intro _; rfl) :
    EV C (.Call (.Name x p) (e :: es) [] pos) E M (.adr M1.length) (M1 ++ [some (fs.map .dat)]) := EV.callG (ι := []) F ha hR (by rw [ren_dat]) mixN hk hg hdb he hpl
/-- a def that turns one list, lent first -/
theorem EV.call1 {R : Rel} {kf n : Nat} {ds cs cs' : List D} (F : FN C.g x kf R) (ha : EA C (e :: es) E M (.adr n :: ds.map .dat) M1) (hc : M1[n]? = some (some (cs.map .dat))) (hR : R (.adr 0 :: ds.map .dat) [some (cs.map .dat)] (.dat d) [some (cs'.map .dat)]) (hk : Nat.ble kf C.k = true := by rfl)
    (hg : C.sc.names.lookup x = some .globalImplicit := by rfl) (hdb : (x == ("__debug__" : Str)) = false := by decide) (he : ∀ env, starEach (e :: es) env = (false, eval e env) :: starEach es env := by intro _; rfl) (hpl : ∀ env, (backTo pos (starEach es env)).any (·.1) = false := by intro _; rfl) :
    EV C (.Call (.Name x p) (e :: es) [] pos) E M (.dat d) (M1.set n (some (cs'.map .dat))) := EV.callG (ι := [n]) F ha hR (by show _ = O.adr n :: _; rw [ren_dat]) (mix1 hc) hk hg hdb he hpl
theorem EV.call1N {R : Rel} {kf n : Nat} {ds cs cs' fs : List D} (F : FN C.g x kf R) (ha : EA C (e :: es) E M (.adr n :: ds.map .dat) M1) (hc : M1[n]? = some (some (cs.map .dat))) (hR : R (.adr 0 :: ds.map .dat) [some (cs.map .dat)] (.adr 1) [some (cs'.map .dat), some (fs.map .dat)]) (hk : Nat.ble kf C.k = true := by rfl)
    (hg : C.sc.names.lookup x = some .globalImplicit := by rfl) (hdb : (x == ("__debug__" : Str)) = false := by decide) (he : ∀ env, starEach (e :: es) env = (false, eval e env) :: starEach es env := by intro _; rfl) (hpl : ∀ env, (backTo pos (starEach es env)).any (·.1) = false := by intro _; rfl) :
    EV C (.Call (.Name x p) (e :: es) [] pos) E M (.adr M1.length) (M1.set n (some (cs'.map .dat)) ++ [some (fs.map .dat)]) := EV.callG (ι := [n]) F ha hR (by show _ = O.adr n :: _; rw [ren_dat]) (mix1N hc) hk hg hdb he hpl
end
end Ab
/-! Ab: list(reversed(xs)). -/
namespace AbRev
open PySem PySem.W PySem.Calls PyProof.Rows PySem.Spec RT
section
variable {prog : Program} {w : World} {A : Around} {E : Value → Shared → Prop} {s : Shared}
theorem extend_rev {R : Result → Shared → Prop} {it l : Addr} {items : Array Value} (hh : A.handled = none) (hit : s.heap.IsRevIter it l ((items.size : Int) - 1)) (hl : s.heap.IsList l items) (hne : l ≠ it) (hn : items.size ≤ sizeLine) (S : Addr) (res : Value) (c₀ : Nat) (hS : s.heap.get? S = some { cls := .type "list", data := .seq #[] c₀ }) (hSi : S ≠ it) (hSl : S ≠ l)
    (hR : ∀ h' tk acc' c', (∀ b o, b ≠ S → b ≠ it → s.heap.get? b = some o → h'.get? b = some o) → h'.get? S = some { cls := .type "list", dict := none, data := .seq acc' c', slots := #[] } →
      ItemsOf (fun i v => items[items.size - 1 - i]? = some v) acc' items.size → R (.ok (.ret res)) { s with heap := h', toks := tk }) :
    wpAny (model prog w) A.in1 (Builtin.List.listExtendWith (.ref S) (.ref it) res)
      (fun fin s' => match fin with | .done f => R (.ok f) s' | .again c' => c'.quiet = true ∧ codeAny (model prog w) A c' R s') (fun e s' => R (.error e) s') s := by
  have W := (Walks.listRev (prog := prog) (w := w) (A := A.in1) hh it l hne items).toS
  have hSf : S ∉ [it, l] := by simp only [List.mem_cons, List.not_mem_nil, or_false, not_or]; exact ⟨hSi, hSl⟩
  have hT : s.TypeIs (.ref it) "list_reverseiterator" := Heap.IsRevIter.typeIs hit
  have h1 : Builtin.List.listSameRef (.ref S) (.ref it) = false := by simp [Builtin.List.listSameRef, hSi]
  unfold Builtin.List.listExtendWith
  refine wpAny_bind (wpAny_typeOf hT ?_)
  rw [if_neg (by rw [h1]; decide)]
  refine wpAny_bind (wpAny_pyIter_revIter hit ?_)
  refine wpAny_bind (wpAny_holding ?_)
  unfold Builtin.List.listLengthHint
  refine wpAny_bind (wpAny_specialOf hT nolen_lri ?_)
  show wpAny _ A.in1 (specialOf (Value.ref it) (Str.ofString "__length_hint__") >>= _) _ _ _
  refine wpAny_bind (wpAny_specialOf hT hint_lri ?_)
  generalize hid : ("list_reverseiterator.__length_hint__" : String) = id0
  wp_delta
  rw [show splitId id0 = some ("list_reverseiterator", "__length_hint__") from by subst hid; decide +kernel]
  subst hid
  refine wpAny_bind (wpAny_isInstance (b := true) hT (by rw [isSubtype_type]; kernel_rfl) ?_)
  refine wpAny_pure ?_
  rw [if_neg (by decide)]
  have e0 : ((items.size : Nat) : Int) - 1 - ((0 : Nat) : Int) = (items.size : Int) - 1 := by omega
  refine wpAny_pure ⟨plainId_quiet F.plain_extend_loop _, codeAny_extend_loopS W hn S hSf _ items.size 0 _ #[] c₀ rfl (Nat.zero_le _) ⟨Nat.zero_le _, by rw [e0]; exact hit, hl⟩ hS (ItemsOf.nil _) fun s' acc' c' hm hS' hacc => ?_⟩
  rw [Moved.eq_with hm]
  refine hR s'.heap s'.toks acc' c' (fun b o hb hb2 e => hm.heap b o (fun hmem => ?_) e) hS' hacc
  rcases List.mem_cons.mp hmem with e' | hmem
  · exact hb e'
  · exact hb2 (List.mem_singleton.mp hmem)
theorem list_init_rev {R : Result → Shared → Prop} {it l : Addr} {items : Array Value} (hh : A.handled = none) (hit : s.heap.IsRevIter it l ((items.size : Int) - 1)) (hl : s.heap.IsList l items) (hne : l ≠ it) (hn : items.size ≤ sizeLine) (S : Addr) (hS : s.heap.get? S = some { cls := .type "list", data := .seq #[] }) (hSi : S ≠ it) (hSl : S ≠ l)
    (hR : ∀ h' tk acc' c', (∀ b o, b ≠ S → b ≠ it → s.heap.get? b = some o → h'.get? b = some o) → h'.get? S = some { cls := .type "list", dict := none, data := .seq acc' c', slots := #[] } →
      ItemsOf (fun i v => items[items.size - 1 - i]? = some v) acc' items.size → R (.ok (.ret .none)) { s with heap := h', toks := tk }) :
    wpAny (model prog w) A.in1 (Builtin.«list.__init__» ⟨[.ref S, .ref it], []⟩)
      (fun fin s' => match fin with | .done f => R (.ok f) s' | .again c' => c'.quiet = true ∧ codeAny (model prog w) A c' R s') (fun e s' => R (.error e) s') s := by
  show wpAny _ _ (do let old ← Builtin.List.listItems (.ref S); Builtin.List.listUpdate (.ref S) (fun _ => #[]); letGo old.toList.reverse; Builtin.List.listExtendWith (.ref S) (.ref it) .none) _ _ s
  refine wpAny_bind ?_
  unfold Builtin.List.listItems
  refine wpAny_bind (wpAny_seqItems hS rfl (wpAny_pure ?_))
  show wpAny _ _ (updateSeq S (fun _ => #[]) >>= fun _ => letGo (#[] : Array Value).toList.reverse >>= fun _ => Builtin.List.listExtendWith (.ref S) (.ref it) .none) _ _ s
  refine wpAny_bind (wpAny_updateSeq hS rfl ?_)
  have hS₂ := Heap.get?_update_self (Obj.mapSeq (fun _ => (#[] : Array Value))) hS rfl
  have oth : ∀ b o, b ≠ S → s.heap.get? b = some o → (s.heap.update S (Obj.mapSeq (fun _ => (#[] : Array Value)))).get? b = some o :=
    fun b o hb e => (Heap.get?_update_other _ _ (Ne.symm hb)).trans e
  refine wpAny_bind (wpAny_letGo ?_)
  refine extend_rev hh (hit.at fun o e => oth it o (Ne.symm hSi) e) (hl.at fun o e => oth l o (Ne.symm hSl) e) hne hn S .none _ hS₂ hSi hSl fun h' tk acc' c' hk hS' hacc => ?_
  exact hR h' tk acc' c' (fun b o hb hb2 e => hk b o hb hb2 (oth b o hb e)) hS' hacc
theorem call_list_rev {it l : Addr} {items : Array Value} {Q : Value → Shared → Prop} (hh : A.handled = none) (hit : s.heap.IsRevIter it l ((items.size : Int) - 1)) (hl : s.heap.IsList l items) (hne : l ≠ it) (hn : items.size ≤ sizeLine)
    (hQ : ∀ h' tk acc' c', (∀ b o, b ≠ it → s.heap.get? b = some o → h'.get? b = some o) →
      h'.get? s.heap.objs.size = some { cls := .type "list", dict := none, data := .seq acc' c', slots := #[] } → ItemsOf (fun i v => items[items.size - 1 - i]? = some v) acc' items.size → Q (.ref s.heap.objs.size) { s with heap := h', toks := tk }) :
    wpAny (model prog w) A (call (.type "list") [.ref it]) Q E s := by
  refine callType_codes (Q₁ := fun obj s₁ => obj = .ref s.heap.objs.size ∧ s₁ = { s with heap := s.heap.push { cls := .type "list", data := .seq #[] } }) F.called_list (F.typeCall_list_1 _) F.entry_list_init
    (code_list_new _ ⟨rfl, rfl⟩) fun obj s₁ h₁ => ?_
  obtain ⟨rfl, rfl⟩ := h₁
  obtain ⟨oi, hoi, _⟩ := id hit
  obtain ⟨ol, hol, _⟩ := id hl
  have hS : (s.heap.push { cls := .type "list", data := .seq #[] }).get? s.heap.objs.size = some { cls := .type "list", data := .seq #[] } := Heap.get?_push_size _ rfl
  refine ⟨⟨_, hS, rfl⟩, F.args_list_init_2 _ _, list_init_rev (A := A.in1) (s := { s with heap := s.heap.push { cls := .type "list", data := .seq #[] } }) hh (hit.at fun o e => Heap.get?_push_of_some _ e) (hl.push _) hne hn _ hS (Nat.ne_of_gt (Heap.lt_size hoi)) (Nat.ne_of_gt (Heap.lt_size hol)) fun h' tk acc' c' hk hS' hacc => ?_⟩
  exact ⟨rfl, hQ h' tk acc' c' (fun b o hb e => hk b o (Nat.ne_of_lt (Heap.lt_size e)) hb (Heap.get?_push_of_some _ e)) hS' hacc⟩
end
end AbRev

namespace Ab
open PySem PySem.Spec PyProof.Rows L2
def tListRev (K : PySem.W.Frag) (te : TE) : TE := fun σ H Q => te σ H fun v H1 => ∃ (a : Addr) (xs : List V), v = .ref a ∧ SqL K H1 a xs ∧ ∀ q, H1 q = none → Q (.ref q) (upd H1 q (.lst xs.reverse))
theorem pe_listRev {X : Cx} {e : Expr} {te : TE} {p p2 pos pos2 : Pos} (hc : X.calm = true) (hg : Gl X "list") (hm : X.mg "list" = none) (hg2 : Gl X "reversed") (hm2 : X.mg "reversed" = none) (he : PE X e te)
    (hs : starEach [e] X.env = (false, eval e X.env) :: starEach [] X.env := by rfl)
    (hs2 : starEach [.Call (.Name "reversed" p2) [e] [] pos2] X.env = (false, eval (.Call (.Name "reversed" p2) [e] [] pos2) X.env) :: starEach [] X.env := by rfl) :
    PE X (.Call (.Name "list" p) [.Call (.Name "reversed" p2) [e] [] pos2] [] pos) (tListRev X.K te) := by
  refine ⟨fun pins s σ H Q I h => ?_⟩
  refine Call_ (ld_blt I hg hm (by decide +kernel : bootBuiltins "list" = some (.type "list")) (PyProof.Rows.callWith_type1 (args_cons (Call_ (ld_blt I hg2 hm2 PyProof.Rows.boot_reversed (PyProof.Rows.callWith_type1 (args_cons (thn (he.run pins s σ H _ I h) fun u s1 ⟨v, H1, I1, r1, q1⟩ => args_nil ?_) hs) hs rfl))) hs2) hs2 rfl))
  obtain ⟨a, xs, ev, hq, q⟩ := q1
  subst ev
  obtain rfl : u = Value.ref a := r1
  obtain ⟨its, rv, p', hz⟩ := I1.list hq
  refine call_reversed_list p'.isList (args_nil ?_)
  have k0 : ∀ b o, s1.heap.get? b = some o → (s1.heap.push (revObj a ((its.toArray.size : Int) - 1))).get? b = some o := fun b o e => Heap.get?_push_of_some _ e
  have I2 : Inv X pins σ H1 { s1 with heap := s1.heap.push (revObj a ((its.toArray.size : Int) - 1)) } := I1.kept (t' := s1.toks) k0
  have hf := I1.fpOk (H' := H1) (b := s1.heap.objs.size) (Nat.le_refl _) (I1.hok.fresh (Nat.le_refl _))
  have hl := p'.isList
  obtain ⟨ol, hol, _⟩ := id hl
  have hne : a ≠ s1.heap.objs.size := Nat.ne_of_lt (Heap.lt_size hol)
  have hn : its.toArray.size ≤ sizeLine := by rw [List.size_toArray, ← rv.length]; exact hz
  refine AbRev.call_list_rev (s := { s1 with heap := s1.heap.push (revObj a ((its.toArray.size : Int) - 1)) }) (I1.ok.hd hc) ⟨_, Heap.get?_push_size _ rfl, rfl, rfl⟩ (hl.push _) hne hn fun h' tk acc c' hk hS hi => ?_
  have new : ObjOk X.prog X.w (upd H1 (s1.heap.push (revObj a ((its.toArray.size : Int) - 1))).objs.size (.lst xs.reverse)) h' (s1.heap.push (revObj a ((its.toArray.size : Int) - 1))).objs.size (.lst xs.reverse) :=
    ⟨by rw [List.length_reverse]; exact hz, acc.toList, c', RT.vals_rev rv hi, by rw [Array.toArray_toList]; exact hS⟩
  exact ⟨.ref _, _, I2.turnedNew (t' := tk) (ch := [s1.heap.objs.size]) (fun b o hb e => hk b o (fun z => hb (by rw [z]; exact List.mem_singleton.mpr rfl)) e) (fun b hb => by rw [List.mem_singleton.mp hb]; exact hf) (Nat.le_refl _) new, rfl, q _ (I2.hok.fresh (Nat.le_refl _))⟩
end Ab
/-! Ab: short words. -/
namespace Ab
open PySem PySem.Spec PyProof.Rows L2
section
variable {C : Cc} {E E1 E2 E' : List O} {M M1 M2 M3 M' : Mem} {o o1 o2 o3 : O} {os : List O} {e a b c tg iter elt : Expr} {es : List Expr} {pos pos' p p2 pos2 : Pos} {d d1 d2 : D} {i j : Int} {n : Nat} {k k' : Bool} {r : Out} {body : List Stmt} {x y : Str} {ds : List D}

/-! ### built-ins by name -/
theorem EV.bi {id : String} (S : KS C (.builtin id) [o1] M1 o M') (h : EV C a E M o1 M1) (hm : Bt C.g x) (hv : bootBuiltins x = some (.builtin id)) (hn : x ≠ "__name__") (hdb : (x == ("__debug__" : Str)) = false) (hg : C.sc.names.lookup x = some .globalImplicit)
    (he : ∀ env, starEach [a] env = (false, eval a env) :: starEach [] env) : EV C (.Call (.Name x p) [a] [] pos) E M o M' := EV.cb S (EA.cons h EA.nil he) hm hv hg hn hdb he (fun _ => rfl)
theorem EV.bt {T : String} (S : KS C (.type T) [o1] M1 o M') (h : EV C a E M o1 M1) (hm : Bt C.g x) (hv : bootBuiltins x = some (.type T)) (hn : x ≠ "__name__") (hdb : (x == ("__debug__" : Str)) = false) (hg : C.sc.names.lookup x = some .globalImplicit)
    (he : ∀ env, starEach [a] env = (false, eval a env) :: starEach [] env) : EV C (.Call (.Name x p) [a] [] pos) E M o M' := EV.cty S (EA.cons h EA.nil he) hm hv hg hn hdb he (fun _ => rfl)
theorem bv_len : bootBuiltins "len" = some (.builtin "len") := by decide +kernel
theorem bv_sum : bootBuiltins "sum" = some (.builtin "sum") := by decide +kernel
theorem bv_all : bootBuiltins "all" = some (.builtin "all") := by decide +kernel
theorem bv_any : bootBuiltins "any" = some (.builtin "any") := by decide +kernel
theorem bv_abs : bootBuiltins "abs" = some (.builtin "abs") := by decide +kernel
theorem bv_min : bootBuiltins "min" = some (.builtin "min") := by decide +kernel
theorem bv_max : bootBuiltins "max" = some (.builtin "max") := by decide +kernel
theorem bv_int : bootBuiltins "int" = some (.type "int") := by decide +kernel
theorem bv_bool : bootBuiltins "bool" = some (.type "bool") := by decide +kernel
theorem bv_str : bootBuiltins "str" = some (.type "str") := by decide +kernel
theorem bv_tuple : bootBuiltins "tuple" = some (.type "tuple") := by decide +kernel
theorem bv_list : bootBuiltins "list" = some (.type "list") := by decide +kernel
theorem EV.len (h : EV C a E M (.dat d) M') (hl : lenD d = some n) (hm : Bt C.g "len") (hx : x = "len" := by rfl) (hg : C.sc.names.lookup x = some .globalImplicit := by rfl) (he : ∀ env, starEach [a] env = (false, eval a env) :: starEach [] env := by intro _; rfl) : EV C (.Call (.Name x p) [a] [] pos) E M (.dat (.int (n : Int))) M' := by
  subst hx; exact EV.bi (KS.len hl) h hm bv_len (by decide) (by decide) hg he
theorem EV.lenC {nn : Nat} {ps : List O} (h : EV C a E M (.adr nn) M') (hl : M'[nn]? = some (some ps)) (hm : Bt C.g "len") (hx : x = "len" := by rfl) (hg : C.sc.names.lookup x = some .globalImplicit := by rfl) (he : ∀ env, starEach [a] env = (false, eval a env) :: starEach [] env := by intro _; rfl) : EV C (.Call (.Name x p) [a] [] pos) E M (.dat (.int (ps.length : Int))) M' := by
  subst hx; exact EV.bi (KS.lenC hl) h hm bv_len (by decide) (by decide) hg he
theorem EV.sum {ns : List Int} (h : EV C a E M (.dat (.lst (ns.map .int))) M') (hm : Bt C.g "sum") (hx : x = "sum" := by rfl) (hg : C.sc.names.lookup x = some .globalImplicit := by rfl) (he : ∀ env, starEach [a] env = (false, eval a env) :: starEach [] env := by intro _; rfl) : EV C (.Call (.Name x p) [a] [] pos) E M (.dat (.int ns.sum)) M' := by
  subst hx; exact EV.bi KS.sum h hm bv_sum (by decide) (by decide) hg he
theorem EV.all {bs : List Bool} (h : EV C a E M (.dat (.lst (bs.map .bl))) M') (hm : Bt C.g "all") (hx : x = "all" := by rfl) (hg : C.sc.names.lookup x = some .globalImplicit := by rfl) (he : ∀ env, starEach [a] env = (false, eval a env) :: starEach [] env := by intro _; rfl) : EV C (.Call (.Name x p) [a] [] pos) E M (.dat (.bl (bs.all id))) M' := by
  subst hx; exact EV.bi KS.all h hm bv_all (by decide) (by decide) hg he
theorem EV.any {bs : List Bool} (h : EV C a E M (.dat (.lst (bs.map .bl))) M') (hm : Bt C.g "any") (hx : x = "any" := by rfl) (hg : C.sc.names.lookup x = some .globalImplicit := by rfl) (he : ∀ env, starEach [a] env = (false, eval a env) :: starEach [] env := by intro _; rfl) : EV C (.Call (.Name x p) [a] [] pos) E M (.dat (.bl (bs.any id))) M' := by
  subst hx; exact EV.bi KS.any h hm bv_any (by decide) (by decide) hg he
theorem EV.abs (h : EV C a E M (.dat (.int i)) M') (hm : Bt C.g "abs") (hx : x = "abs" := by rfl) (hg : C.sc.names.lookup x = some .globalImplicit := by rfl) (he : ∀ env, starEach [a] env = (false, eval a env) :: starEach [] env := by intro _; rfl) : EV C (.Call (.Name x p) [a] [] pos) E M (.dat (.int (i.natAbs : Int))) M' := by
  subst hx; exact EV.bi KS.abs h hm bv_abs (by decide) (by decide) hg he
theorem EV.intI (h : EV C a E M (.dat (.int i)) M') (hm : Bt C.g "int") (hx : x = "int" := by rfl) (hg : C.sc.names.lookup x = some .globalImplicit := by rfl) (he : ∀ env, starEach [a] env = (false, eval a env) :: starEach [] env := by intro _; rfl) : EV C (.Call (.Name x p) [a] [] pos) E M (.dat (.int i)) M' := by
  subst hx; exact EV.bt KS.intI h hm bv_int (by decide) (by decide) hg he
theorem EV.intB (h : EV C a E M (.dat (.bl k)) M') (hm : Bt C.g "int") (hx : x = "int" := by rfl) (hg : C.sc.names.lookup x = some .globalImplicit := by rfl) (he : ∀ env, starEach [a] env = (false, eval a env) :: starEach [] env := by intro _; rfl) : EV C (.Call (.Name x p) [a] [] pos) E M (.dat (.int (if k then 1 else 0))) M' := by
  subst hx; exact EV.bt KS.intB h hm bv_int (by decide) (by decide) hg he
theorem EV.tuple (h : EV C a E M (.dat d) M') (hl : seqD d = some ds) (hm : Bt C.g "tuple") (hx : x = "tuple" := by rfl) (hg : C.sc.names.lookup x = some .globalImplicit := by rfl) (he : ∀ env, starEach [a] env = (false, eval a env) :: starEach [] env := by intro _; rfl) : EV C (.Call (.Name x p) [a] [] pos) E M (.dat (.tup ds)) M' := by
  subst hx; exact EV.bt (KS.tuple hl) h hm bv_tuple (by decide) (by decide) hg he
theorem EV.tupleC {nn : Nat} (h : EV C a E M (.adr nn) M') (hl : M'[nn]? = some (some (ds.map .dat))) (hm : Bt C.g "tuple") (hx : x = "tuple" := by rfl) (hg : C.sc.names.lookup x = some .globalImplicit := by rfl) (he : ∀ env, starEach [a] env = (false, eval a env) :: starEach [] env := by intro _; rfl) : EV C (.Call (.Name x p) [a] [] pos) E M (.dat (.tup ds)) M' := by
  subst hx; exact EV.bt (KS.tupleC hl) h hm bv_tuple (by decide) (by decide) hg he
theorem EV.list (h : EV C a E M (.dat d) M') (hl : seqD d = some ds) (hm : Bt C.g "list") (hx : x = "list" := by rfl) (hg : C.sc.names.lookup x = some .globalImplicit := by rfl) (he : ∀ env, starEach [a] env = (false, eval a env) :: starEach [] env := by intro _; rfl) : EV C (.Call (.Name x p) [a] [] pos) E M (.dat (.lst ds)) M' := by
  subst hx; exact EV.bt (KS.list hl) h hm bv_list (by decide) (by decide) hg he
theorem EV.listN (h : EV C a E M (.dat d) M') (hl : seqD d = some ds) (hm : Bt C.g "list") (hx : x = "list" := by rfl) (hg : C.sc.names.lookup x = some .globalImplicit := by rfl) (he : ∀ env, starEach [a] env = (false, eval a env) :: starEach [] env := by intro _; rfl) : EV C (.Call (.Name x p) [a] [] pos) E M (.adr M'.length) (M' ++ [some (ds.map .dat)]) := by
  subst hx; exact EV.bt (KS.listN hl) h hm bv_list (by decide) (by decide) hg he
theorem EV.max2 (h : EV C a E M (.dat (.int i)) M1) (h' : EV C b E M1 (.dat (.int j)) M') (hm : Bt C.g "max") (hx : x = "max" := by rfl) (hg : C.sc.names.lookup x = some .globalImplicit := by rfl) (he : ∀ env, starEach [a, b] env = (false, eval a env) :: starEach [b] env := by intro _; rfl) (he2 : ∀ env, starEach [b] env = (false, eval b env) :: starEach [] env := by intro _; rfl) (hpl : ∀ env, (backTo pos (starEach [b] env)).any (·.1) = false := by intro _; rfl) : EV C (.Call (.Name x p) [a, b] [] pos) E M (.dat (.int (max i j))) M' := by
  subst hx
  have := EV.cb (p := p) (pos := pos) (KS.max2 (C := C) (M := M') (i := i) (j := j)) (EA.cons h (EA.cons h' EA.nil he2) he) hm bv_max hg (by decide) (by decide) he hpl
  have e : (if j > i then j else i) = max i j := by split <;> omega
  rw [e] at this
  exact this
/-- list(reversed(xs)), a cell -/
theorem EV.listRevN (h : EV C a E M (.dat (.lst ds)) M') (hm : Bt C.g "list") (hm2 : Bt C.g "reversed") (hx : x = "list" := by rfl) (hy : y = "reversed" := by rfl) (hg : C.sc.names.lookup x = some .globalImplicit := by rfl) (hg2 : C.sc.names.lookup y = some .globalImplicit := by rfl) (he : ∀ env, starEach [a] env = (false, eval a env) :: starEach [] env := by intro _; rfl) :
    EV C (.Call (.Name x p) [.Call (.Name y p2) [a] [] pos2] [] pos) E M (.adr M'.length) (M' ++ [some (ds.reverse.map .dat)]) := by
  subst hx hy
  refine EV.mk (t := tListRev C.g.K (UE C a)) (fun X hX => ?_) fun I H adr σ Q s q => h I H adr σ _ s fun v I1 H1 adr1 s1 g1 v1 => ?_
  · have := pe_listRev (p := p) (p2 := p2) (pos := pos) (pos2 := pos2) hX.calm (by show X.env.scope.names.lookup _ = _; rw [hX.sc]; exact hg) (by rw [hX.mg]; exact hm) (by show X.env.scope.names.lookup _ = _; rw [hX.sc]; exact hg2) (by rw [hX.mg]; exact hm2) (ue hX a) (he X.env) rfl
    rw [hX.K] at this
    exact this
  · cases (show Rep I1 (.lst ds) v from v1) with
    | @lst q' xs _ hp hr =>
      refine ⟨q', xs, rfl, sql_uniq (s1.ex _ _ hp), fun q2 h2 => ?_⟩
      obtain ⟨s2, g2, r2⟩ := s1.cel h2 (Vs.reps hr.reverse)
      exact q _ _ _ _ s2 (g1.trans g2) ⟨q2, r2, rfl⟩
theorem EV.listRev (h : EV C a E M (.dat (.lst ds)) M') (hm : Bt C.g "list") (hm2 : Bt C.g "reversed") (hl : M.length ≤ M'.length) (ok : OkM M M') (hx : x = "list" := by rfl) (hy : y = "reversed" := by rfl) (hg : C.sc.names.lookup x = some .globalImplicit := by rfl) (hg2 : C.sc.names.lookup y = some .globalImplicit := by rfl) (he : ∀ env, starEach [a] env = (false, eval a env) :: starEach [] env := by intro _; rfl) :
    EV C (.Call (.Name x p) [.Call (.Name y p2) [a] [] pos2] [] pos) E M (.dat (.lst ds.reverse)) M' := Ev.froz (EV.listRevN h hm hm2 hx hy hg hg2 he) rfl hl ok

/-! ### sums and the like -/
theorem EV.add (ha : EV C a E M (.dat (.int i)) M1) (hb : EV C b E M1 (.dat (.int j)) M') : EV C (.BinOp a .Add b pos) E M (.dat (.int (i + j))) M' := EV.bin ha hb BS.addI
theorem EV.sub (ha : EV C a E M (.dat (.int i)) M1) (hb : EV C b E M1 (.dat (.int j)) M') : EV C (.BinOp a .Sub b pos) E M (.dat (.int (i - j))) M' := EV.bin ha hb BS.subI
theorem EV.mul (ha : EV C a E M (.dat (.int i)) M1) (hb : EV C b E M1 (.dat (.int j)) M') (h : IntMulOk i j) : EV C (.BinOp a .Mult b pos) E M (.dat (.int (i * j))) M' := EV.bin ha hb (BS.mulI h)
theorem EV.mod (ha : EV C a E M (.dat (.int i)) M1) (hb : EV C b E M1 (.dat (.int j)) M') (h : 0 < j) : EV C (.BinOp a .Mod b pos) E M (.dat (.int (i % j))) M' := EV.bin ha hb (BS.modI h)
theorem EV.div (ha : EV C a E M (.dat (.int i)) M1) (hb : EV C b E M1 (.dat (.int j)) M') (h : CDivW i j) : EV C (.BinOp a .FloorDiv b pos) E M (.dat (.int (i / j))) M' := EV.bin ha hb (BS.divI h)
theorem EV.pow (ha : EV C a E M (.dat (.int i)) M1) (hb : EV C b E M1 (.dat (.int j)) M') (h : CPow i j) : EV C (.BinOp a .Pow b pos) E M (.dat (.int (i ^ j.toNat))) M' := EV.bin ha hb (BS.powI h)
theorem mul_ok {i j : Int} {m n : Nat} (hi : i.natAbs < 2 ^ m) (hj : j.natAbs < 2 ^ n) (h0 : 0 < m := by decide) (h1 : 0 < n := by decide) (h : m + n ≤ 1000000 := by decide) : IntMulOk i j := CMulW.ok (wide_mul hi hj h0 h1 h)
theorem bits_le {i : Int} (h : -(2 ^ 64) < i ∧ i < 2 ^ 64) : Builtin.Int.intBits i ≤ 64 := by
  unfold Builtin.Int.intBits
  split
  · omega
  · have h1 : i.natAbs < 2 ^ 64 := by omega
    have := PySem.Flt.log2_lt_of (show 0 < 64 by decide) h1
    omega
theorem mul_okL {i j : Int} (h : -(2 ^ 64) < i ∧ i < 2 ^ 64) : IntMulOk i j := IntMulOk.of_left (bits_le h)
theorem mul_okR {i j : Int} (h : -(2 ^ 64) < j ∧ j < 2 ^ 64) : IntMulOk i j := IntMulOk.of_right (bits_le h)
theorem EV.mulL (ha : EV C a E M (.dat (.int i)) M1) (hb : EV C b E M1 (.dat (.int j)) M') (h : -(2 ^ 64) < i ∧ i < 2 ^ 64) : EV C (.BinOp a .Mult b pos) E M (.dat (.int (i * j))) M' := EV.mul ha hb (mul_okL h)
theorem EV.mulR (ha : EV C a E M (.dat (.int i)) M1) (hb : EV C b E M1 (.dat (.int j)) M') (h : -(2 ^ 64) < j ∧ j < 2 ^ 64) : EV C (.BinOp a .Mult b pos) E M (.dat (.int (i * j))) M' := EV.mul ha hb (mul_okR h)

/-! ### guards -/
theorem ET.to {e : Expr} (h : ET C e E M k M') (q : k = k') : ET C e E M k' M' := q ▸ h
theorem SB.guard {ys rest : List Stmt} (hc : ET C c E M k M1) (h1 : k = true → SB C ys E M1 r) (h2 : k = false → SB C rest E M1 r) (he : r.ends = true := by rfl) : SB C (.If c ys [] pos :: rest) E M r := by
  cases k with
  | true => exact SB.stop (ST.yes hc (h1 rfl)) he
  | false => exact SB.cons (ST.no hc SB.nil) (h2 rfl)
theorem SB.to {sts : List Stmt} {r' : Out} (h : SB C sts E M r) (q : r = r') : SB C sts E M r' := q ▸ h
theorem ST.to {st : Stmt} {r' : Out} (h : ST C st E M r) (q : r = r') : ST C st E M r' := q ▸ h
/-! ### a cell is frozen -/
theorem SB.fz {jj nn : Nat} {sts : List Stmt} (he : E[jj]? = some (.adr nn)) (hm : M[nn]? = some (some (ds.map .dat))) (h : SB C sts (E.set jj (.dat (.lst ds))) (M.set nn none) r) : SB C sts E M r := fun I H adr σ D s q => by
  have hk : nn < adr.length := by
    rw [s.sto.len]
    exact (List.getElem?_eq_some_iff.mp hm).1
  obtain ⟨I1, s1, g1, r1⟩ := s.frz (List.getElem?_eq_getElem hk) hm
  have hj : jj < σ.length := by
    rw [← s.len]
    exact (List.getElem?_eq_some_iff.mp he).1
  have hs := s.slot jj _ σ[jj] he (List.getElem?_eq_getElem hj)
  cases hv : σ[jj] with
  | none =>
    rw [hv] at hs
    cases hs
  | some v =>
    rw [hv] at hs
    obtain ⟨a', h1, h2⟩ := hs
    rw [List.getElem?_eq_getElem hk] at h1
    cases h1
    subst h2
    have s2 : Stt I1 H adr (σ.set jj (some (.ref adr[nn]))) (E.set jj (.dat (.lst ds))) (M.set nn none) := s1.set r1
    have e : σ.set jj (some (.ref adr[nn])) = σ := by
      rw [← hv]
      exact List.set_getElem_self hj
    rw [e] at s2
    exact h I1 H adr σ D s2 (q.mono g1)

/-! ### what a def leaves behind may be dropped -/
def LowO (n : Nat) : O → Prop
  | .adr k => k < n
  | _ => True
def LowM (n : Nat) (M : Mem) : Prop := ∀ (k : Nat) (os : List O), M[k]? = some (some os) → ∀ o ∈ os, LowO n o
theorem LowM.nil {n : Nat} : LowM n [] := fun k os h => by simp at h
theorem LowM.dat {n : Nat} {ds : List D} {M : Mem} (h : LowM n M) : LowM n (some (ds.map .dat) :: M) := fun k os q o ho => by
  cases k with
  | zero =>
    have e : ds.map O.dat = os := Option.some.inj (Option.some.inj q)
    subst e
    obtain ⟨d, _, rfl⟩ := List.mem_map.mp ho
    exact True.intro
  | succ k => exact h k os q o ho
theorem LowM.none {n : Nat} {M : Mem} (h : LowM n M) : LowM n (none :: M) := fun k os q o ho => by
  cases k with
  | zero => cases q
  | succ k => exact h k os q o ho
theorem vo_take {I : Hp} {adr : List Addr} {n : Nat} {v : V} : ∀ {o : O}, LowO n o → Vo I adr o v → Vo I (adr.take n) o v
  | .no, _, _ => True.intro
  | .dat _, _, h => h
  | .scr _ _, _, h => h
  | .adr k, hk, h => by
    obtain ⟨a, h1, h2⟩ := h
    exact ⟨a, by rw [List.getElem?_take, if_pos (show k < n from hk)]; exact h1, h2⟩
theorem vs_take {I : Hp} {adr : List Addr} {n : Nat} : ∀ {os : List O} {xs : List V}, (∀ o ∈ os, LowO n o) → Vs I adr os xs → Vs I (adr.take n) os xs
  | _, _, _, .nil => .nil
  | _, _, hl, .cons h r => .cons (vo_take (hl _ List.mem_cons_self) h) (vs_take (fun o ho => hl o (List.mem_cons_of_mem _ ho)) r)
theorem FN.mkJ {g : Pg} {x : Str} {st : Stmt} {N ps : List Str} {k : Nat} {R : Rel} (T : TxtF g x st) (S : FnScope N ps (defScope st))
    (hb : ∀ (kV doc pm : Value) (an : Option Addr) (cdv ct : Value) (us : List Value), us.length = ps.length → bindArgs (PySem.W.fnOf x x (defArgs st) (defBody st) (defScope st) .none kV doc pm an cdv ct) ⟨us, []⟩ = pure (ps.zip us))
    (hl : ∀ os M o M', R os M o M' → os.length = ps.length) (body : ∀ os M o M', R os M o M' → M.length ≤ M'.length ∧ LowO M'.length o ∧ LowM M'.length M' ∧ ∃ J, SB (mkC g N st k) (defBody st) (pad N os) M (.rt o (M' ++ J))) : FN g x (k + 1) R := by
  obtain ⟨f, fd, F, hm⟩ := T.fn
  refine ⟨f, fd, ps, F.ok (N := N) S (fun vs H Q E h => ?_) (fun cdv A outer s H vs Q E hr h => ?_), hm, F.kp, F.binds hb⟩
  · obtain ⟨I, adr, os, M, o, M', r, _, _, v, _⟩ := h
    rw [← v.length]
    exact hl _ _ _ _ r
  · obtain ⟨I, adr, os, M, o, M', r, ex, sto, v, q⟩ := h
    obtain ⟨hlen, lo, lm, J, hB⟩ := body os M o M' r
    refine ⟨UB (mkC g N st k) (defBody st), ub ⟨rfl, rfl, rfl, rfl, rfl, rfl, rfl, rfl, hr, rfl, fun _ _ => rfl⟩ _, ?_⟩
    refine hB I H adr (L2.start N vs) _ ⟨ex, sto, ?_, fun i p ov h1 h2 => ?_⟩ fun w I' H' adr' s' g' v' => ?_
    · unfold pad L2.start
      rw [List.length_append, List.length_append, List.length_map, List.length_replicate, List.length_replicate, v.length]
    · unfold pad at h1
      unfold L2.start at h2
      by_cases hi : i < os.length
      · rw [List.getElem?_append_left hi] at h1
        obtain ⟨w, e1, e2⟩ := v.get h1
        rw [List.getElem?_append_left (by rw [List.length_map, ← v.length]; exact hi), List.getElem?_map, e1] at h2
        cases h2
        exact e2
      · rw [List.getElem?_append_right (Nat.le_of_not_lt hi)] at h1
        have hp : p = .no := List.eq_of_mem_replicate (List.mem_of_getElem? h1)
        subst hp
        cases ov with
        | none => rfl
        | some w => exact True.intro
    · obtain ⟨nw, rfl, fr⟩ := g'.new
      have l1 := s'.sto.len
      have l2 := sto.len
      rw [List.length_append, List.length_append] at l1
      have ht : (adr ++ nw).take M'.length = adr ++ nw.take (M'.length - adr.length) := by
        rw [List.take_append, List.take_of_length_le (by omega)]
      have sub : ∀ (k : Nat) (a : Addr), ((adr ++ nw).take M'.length)[k]? = some a → (adr ++ nw)[k]? = some a := fun k a h => by
        rw [List.getElem?_take] at h
        split at h
        · exact h
        · cases h
      refine q w I' H' ((adr ++ nw).take M'.length) s'.ex ⟨?_, s'.sto.nd.sublist (List.take_sublist _ _), fun k a ps h1 h2 => ?_, fun k a h1 => s'.sto.dom k a (sub k a h1)⟩ ⟨g'.ex, ⟨_, ht, fun p hp => fr p (List.take_subset _ _ hp)⟩, g'.keep, g'.dom, g'.out⟩ (vo_take lo v')
      · rw [List.length_take, List.length_append]
        omega
      · have hk : k < M'.length := (List.getElem?_eq_some_iff.mp h2).1
        obtain ⟨c1, xs, c2, c3⟩ := s'.sto.cell k a ps (sub k a h1) (by rw [List.getElem?_append_left hk]; exact h2)
        exact ⟨c1, xs, c2, vs_take (lm k ps h2) c3⟩
theorem FN.mkNx {g : Pg} {x : Str} {st : Stmt} {N ps : List Str} {k : Nat} {R : Rel} (T : TxtF g x st) (S : FnScope N ps (defScope st))
    (hb : ∀ (kV doc pm : Value) (an : Option Addr) (cdv ct : Value) (us : List Value), us.length = ps.length → bindArgs (PySem.W.fnOf x x (defArgs st) (defBody st) (defScope st) .none kV doc pm an cdv ct) ⟨us, []⟩ = pure (ps.zip us))
    (hl : ∀ os M o M', R os M o M' → os.length = ps.length) (body : ∀ os M o M', R os M o M' → o = .dat .non ∧ ∃ E', SB (mkC g N st k) (defBody st) (pad N os) M (.nx E' M')) : FN g x (k + 1) R := by
  obtain ⟨f, fd, F, hm⟩ := T.fn
  refine ⟨f, fd, ps, F.ok (N := N) S (fun vs H Q E h => ?_) (fun cdv A outer s H vs Q E hr h => ?_), hm, F.kp, F.binds hb⟩
  · obtain ⟨I, adr, os, M, o, M', r, _, _, v, _⟩ := h
    rw [← v.length]
    exact hl _ _ _ _ r
  · obtain ⟨I, adr, os, M, o, M', r, ex, sto, v, q⟩ := h
    obtain ⟨rfl, E', hB⟩ := body os M o M' r
    refine ⟨UB (mkC g N st k) (defBody st), ub ⟨rfl, rfl, rfl, rfl, rfl, rfl, rfl, rfl, hr, rfl, fun _ _ => rfl⟩ _, ?_⟩
    refine hB I H adr (L2.start N vs) _ ⟨ex, sto, ?_, fun i p ov h1 h2 => ?_⟩ fun I' H' adr' σ' s' g' => q .non I' H' adr' s'.ex s'.sto g' .non
    · unfold pad L2.start
      rw [List.length_append, List.length_append, List.length_map, List.length_replicate, List.length_replicate, v.length]
    · unfold pad at h1
      unfold L2.start at h2
      by_cases hi : i < os.length
      · rw [List.getElem?_append_left hi] at h1
        obtain ⟨w, e1, e2⟩ := v.get h1
        rw [List.getElem?_append_left (by rw [List.length_map, ← v.length]; exact hi), List.getElem?_map, e1] at h2
        cases h2
        exact e2
      · rw [List.getElem?_append_right (Nat.le_of_not_lt hi)] at h1
        have hp : p = .no := List.eq_of_mem_replicate (List.mem_of_getElem? h1)
        subst hp
        cases ov with
        | none => rfl
        | some w => exact True.intro
end
end Ab
/-! Ab: kinds of data, rows and tables. -/
namespace Ab
open PySem PySem.Spec PyProof.Rows L2

def D.isInt : D → Bool
  | .int _ => true
  | .bl _ => true
  | _ => false
def D.isBl : D → Bool
  | .bl _ => true
  | _ => false
def D.isStr : D → Bool
  | .str _ => true
  | _ => false
def D.isTup : D → Bool
  | .tup _ => true
  | _ => false
def D.isLst : D → Bool
  | .lst _ => true
  | _ => false
def D.isNum : D → Bool
  | .int _ => true
  | _ => false
theorem kit_int : ∀ {d : D}, kitB d.ty "int" = some d.isInt
  | .non => (by decide +kernel : kitB "NoneType" "int" = some false)
  | .bl _ => (by decide +kernel : kitB "bool" "int" = some true)
  | .int _ => (by decide +kernel : kitB "int" "int" = some true)
  | .str _ => (by decide +kernel : kitB "str" "int" = some false)
  | .tup _ => (by decide +kernel : kitB "tuple" "int" = some false)
  | .lst _ => (by decide +kernel : kitB "list" "int" = some false)
  | .dct _ _ => (by decide +kernel : kitB "dict" "int" = some false)
theorem kit_bool : ∀ {d : D}, kitB d.ty "bool" = some d.isBl
  | .non => (by decide +kernel : kitB "NoneType" "bool" = some false)
  | .bl _ => (by decide +kernel : kitB "bool" "bool" = some true)
  | .int _ => (by decide +kernel : kitB "int" "bool" = some false)
  | .str _ => (by decide +kernel : kitB "str" "bool" = some false)
  | .tup _ => (by decide +kernel : kitB "tuple" "bool" = some false)
  | .lst _ => (by decide +kernel : kitB "list" "bool" = some false)
  | .dct _ _ => (by decide +kernel : kitB "dict" "bool" = some false)
theorem kit_str : ∀ {d : D}, kitB d.ty "str" = some d.isStr
  | .non => (by decide +kernel : kitB "NoneType" "str" = some false)
  | .bl _ => (by decide +kernel : kitB "bool" "str" = some false)
  | .int _ => (by decide +kernel : kitB "int" "str" = some false)
  | .str _ => (by decide +kernel : kitB "str" "str" = some true)
  | .tup _ => (by decide +kernel : kitB "tuple" "str" = some false)
  | .lst _ => (by decide +kernel : kitB "list" "str" = some false)
  | .dct _ _ => (by decide +kernel : kitB "dict" "str" = some false)
theorem kit_tuple : ∀ {d : D}, kitB d.ty "tuple" = some d.isTup
  | .non => (by decide +kernel : kitB "NoneType" "tuple" = some false)
  | .bl _ => (by decide +kernel : kitB "bool" "tuple" = some false)
  | .int _ => (by decide +kernel : kitB "int" "tuple" = some false)
  | .str _ => (by decide +kernel : kitB "str" "tuple" = some false)
  | .tup _ => (by decide +kernel : kitB "tuple" "tuple" = some true)
  | .lst _ => (by decide +kernel : kitB "list" "tuple" = some false)
  | .dct _ _ => (by decide +kernel : kitB "dict" "tuple" = some false)
theorem kit_list : ∀ {d : D}, kitB d.ty "list" = some d.isLst
  | .non => (by decide +kernel : kitB "NoneType" "list" = some false)
  | .bl _ => (by decide +kernel : kitB "bool" "list" = some false)
  | .int _ => (by decide +kernel : kitB "int" "list" = some false)
  | .str _ => (by decide +kernel : kitB "str" "list" = some false)
  | .tup _ => (by decide +kernel : kitB "tuple" "list" = some false)
  | .lst _ => (by decide +kernel : kitB "list" "list" = some true)
  | .dct _ _ => (by decide +kernel : kitB "dict" "list" = some false)
section
variable {C : Cc} {E : List O} {M M1 M2 M' : Mem} {o : O} {a b : Expr} {pos p pt : Pos} {d : D} {x T : Str} {i j : Int} {k : Bool}
theorem EV.isInt (h : EV C a E M (.dat d) M') (hm : Bt C.g "isinstance") (hT : Bt C.g "int") (hx : x = "isinstance" := by rfl) (hy : T = "int" := by rfl) (hg : C.sc.names.lookup x = some .globalImplicit := by rfl) (hgT : C.sc.names.lookup T = some .globalImplicit := by rfl) (hs : ∀ env, starEach [a, .Name T pt] env = (false, eval a env) :: starEach [.Name T pt] env := by intro _; rfl) : EV C (.Call (.Name x p) [a, .Name T pt] [] pos) E M (.dat (.bl d.isInt)) M' := by
  subst hx hy; exact EV.isi h hm hT bv_int kit_int rfl hg hgT (by decide) (by decide) (by decide) (by decide) hs
theorem EV.isBool (h : EV C a E M (.dat d) M') (hm : Bt C.g "isinstance") (hT : Bt C.g "bool") (hx : x = "isinstance" := by rfl) (hy : T = "bool" := by rfl) (hg : C.sc.names.lookup x = some .globalImplicit := by rfl) (hgT : C.sc.names.lookup T = some .globalImplicit := by rfl) (hs : ∀ env, starEach [a, .Name T pt] env = (false, eval a env) :: starEach [.Name T pt] env := by intro _; rfl) : EV C (.Call (.Name x p) [a, .Name T pt] [] pos) E M (.dat (.bl d.isBl)) M' := by
  subst hx hy; exact EV.isi h hm hT bv_bool kit_bool rfl hg hgT (by decide) (by decide) (by decide) (by decide) hs
theorem EV.isStr (h : EV C a E M (.dat d) M') (hm : Bt C.g "isinstance") (hT : Bt C.g "str") (hx : x = "isinstance" := by rfl) (hy : T = "str" := by rfl) (hg : C.sc.names.lookup x = some .globalImplicit := by rfl) (hgT : C.sc.names.lookup T = some .globalImplicit := by rfl) (hs : ∀ env, starEach [a, .Name T pt] env = (false, eval a env) :: starEach [.Name T pt] env := by intro _; rfl) : EV C (.Call (.Name x p) [a, .Name T pt] [] pos) E M (.dat (.bl d.isStr)) M' := by
  subst hx hy; exact EV.isi h hm hT bv_str kit_str rfl hg hgT (by decide) (by decide) (by decide) (by decide) hs
theorem EV.isTuple (h : EV C a E M (.dat d) M') (hm : Bt C.g "isinstance") (hT : Bt C.g "tuple") (hx : x = "isinstance" := by rfl) (hy : T = "tuple" := by rfl) (hg : C.sc.names.lookup x = some .globalImplicit := by rfl) (hgT : C.sc.names.lookup T = some .globalImplicit := by rfl) (hs : ∀ env, starEach [a, .Name T pt] env = (false, eval a env) :: starEach [.Name T pt] env := by intro _; rfl) : EV C (.Call (.Name x p) [a, .Name T pt] [] pos) E M (.dat (.bl d.isTup)) M' := by
  subst hx hy; exact EV.isi h hm hT bv_tuple kit_tuple rfl hg hgT (by decide) (by decide) (by decide) (by decide) hs
theorem EV.isList (h : EV C a E M (.dat d) M') (hm : Bt C.g "isinstance") (hT : Bt C.g "list") (hx : x = "isinstance" := by rfl) (hy : T = "list" := by rfl) (hg : C.sc.names.lookup x = some .globalImplicit := by rfl) (hgT : C.sc.names.lookup T = some .globalImplicit := by rfl) (hs : ∀ env, starEach [a, .Name T pt] env = (false, eval a env) :: starEach [.Name T pt] env := by intro _; rfl) : EV C (.Call (.Name x p) [a, .Name T pt] [] pos) E M (.dat (.bl d.isLst)) M' := by
  subst hx hy; exact EV.isi h hm hT bv_list kit_list rfl hg hgT (by decide) (by decide) (by decide) (by decide) hs
end
/-- built-in names that stand -/
structure Bs (g : Pg) : Prop where
  len : Bt g "len"
  sum : Bt g "sum"
  all : Bt g "all"
  any : Bt g "any"
  abs : Bt g "abs"
  min : Bt g "min"
  max : Bt g "max"
  int : Bt g "int"
  bool : Bt g "bool"
  str : Bt g "str"
  tuple : Bt g "tuple"
  list : Bt g "list"
  range : Bt g "range"
  zip : Bt g "zip"
  enumerate : Bt g "enumerate"
  isinstance : Bt g "isinstance"
  reversed : Bt g "reversed"
  sorted : Bt g "sorted"

/-! ### relations -/
def P1 (F : D → D → Prop) : Rel := fun os M o M' => ∃ d r, os = [.dat d] ∧ M = [] ∧ o = .dat r ∧ M' = [] ∧ F d r
def P2 (F : D → D → D → Prop) : Rel := fun os M o M' => ∃ d e r, os = [.dat d, .dat e] ∧ M = [] ∧ o = .dat r ∧ M' = [] ∧ F d e r
def P3 (F : D → D → D → D → Prop) : Rel := fun os M o M' => ∃ d e f r, os = [.dat d, .dat e, .dat f] ∧ M = [] ∧ o = .dat r ∧ M' = [] ∧ F d e f r
section
variable {C : Cc} {E : List O} {M M1 M2 M3 M' : Mem} {a b c : Expr} {pos p : Pos} {d e f r : D} {x : Str} {k : Nat}
theorem FN.mk1 {g : Pg} {st : Stmt} {N : List Str} {y : Str} {F : D → D → Prop} (T : TxtF g x st) (S : FnScope N [y] (defScope st))
    (hb : ∀ (kV doc pm : Value) (an : Option Addr) (cdv ct : Value) (us : List Value), us.length = 1 → bindArgs (PySem.W.fnOf x x (defArgs st) (defBody st) (defScope st) .none kV doc pm an cdv ct) ⟨us, []⟩ = pure ([y].zip us))
    (body : ∀ d r, F d r → SB (mkC g N st k) (defBody st) (pad N [.dat d]) [] (.rt (.dat r) [])) : FN g x (k + 1) (P1 F) :=
  FN.mk T S hb (fun os M o M' h => by obtain ⟨d, r, rfl, _⟩ := h; rfl) (fun os M o M' h => by obtain ⟨d, r, rfl, rfl, rfl, rfl, h⟩ := h; exact body d r h)
theorem FN.mk2 {g : Pg} {st : Stmt} {N : List Str} {y z : Str} {F : D → D → D → Prop} (T : TxtF g x st) (S : FnScope N [y, z] (defScope st))
    (hb : ∀ (kV doc pm : Value) (an : Option Addr) (cdv ct : Value) (us : List Value), us.length = 2 → bindArgs (PySem.W.fnOf x x (defArgs st) (defBody st) (defScope st) .none kV doc pm an cdv ct) ⟨us, []⟩ = pure ([y, z].zip us))
    (body : ∀ d e r, F d e r → SB (mkC g N st k) (defBody st) (pad N [.dat d, .dat e]) [] (.rt (.dat r) [])) : FN g x (k + 1) (P2 F) :=
  FN.mk T S hb (fun os M o M' h => by obtain ⟨d, e, r, rfl, _⟩ := h; rfl) (fun os M o M' h => by obtain ⟨d, e, r, rfl, rfl, rfl, rfl, h⟩ := h; exact body d e r h)
theorem FN.mk3 {g : Pg} {st : Stmt} {N : List Str} {y z u : Str} {F : D → D → D → D → Prop} (T : TxtF g x st) (S : FnScope N [y, z, u] (defScope st))
    (hb : ∀ (kV doc pm : Value) (an : Option Addr) (cdv ct : Value) (us : List Value), us.length = 3 → bindArgs (PySem.W.fnOf x x (defArgs st) (defBody st) (defScope st) .none kV doc pm an cdv ct) ⟨us, []⟩ = pure ([y, z, u].zip us))
    (body : ∀ d e f r, F d e f r → SB (mkC g N st k) (defBody st) (pad N [.dat d, .dat e, .dat f]) [] (.rt (.dat r) [])) : FN g x (k + 1) (P3 F) :=
  FN.mk T S hb (fun os M o M' h => by obtain ⟨d, e, f, r, rfl, _⟩ := h; rfl) (fun os M o M' h => by obtain ⟨d, e, f, r, rfl, rfl, rfl, rfl, h⟩ := h; exact body d e f r h)
theorem EV.c1 {F : D → D → Prop} (H : FN C.g x k (P1 F)) (ha : EV C a E M (.dat d) M') (hF : F d r) (hk : Nat.ble k C.k = true := by rfl) (hg : C.sc.names.lookup x = some .globalImplicit := by rfl) (hdb : (x == ("__debug__" : Str)) = false := by decide) (he : ∀ env, starEach [a] env = (false, eval a env) :: starEach [] env := by intro _; rfl) : EV C (.Call (.Name x p) [a] [] pos) E M (.dat r) M' :=
  EV.call (ds := [d]) H (EA.cons ha EA.nil he) ⟨d, r, rfl, rfl, rfl, rfl, hF⟩ hk hg hdb he (fun _ => rfl)
theorem EV.c2 {F : D → D → D → Prop} (H : FN C.g x k (P2 F)) (ha : EV C a E M (.dat d) M1) (hb : EV C b E M1 (.dat e) M') (hF : F d e r) (hk : Nat.ble k C.k = true := by rfl) (hg : C.sc.names.lookup x = some .globalImplicit := by rfl) (hdb : (x == ("__debug__" : Str)) = false := by decide)
    (he : ∀ env, starEach [a, b] env = (false, eval a env) :: starEach [b] env := by intro _; rfl) (he2 : ∀ env, starEach [b] env = (false, eval b env) :: starEach [] env := by intro _; rfl) (hpl : ∀ env, (backTo pos (starEach [b] env)).any (·.1) = false := by intro _; rfl) : EV C (.Call (.Name x p) [a, b] [] pos) E M (.dat r) M' :=
  EV.call (ds := [d, e]) H (EA.cons ha (EA.cons hb EA.nil he2) he) ⟨d, e, r, rfl, rfl, rfl, rfl, hF⟩ hk hg hdb he hpl
theorem EV.c3 {F : D → D → D → D → Prop} (H : FN C.g x k (P3 F)) (ha : EV C a E M (.dat d) M1) (hb : EV C b E M1 (.dat e) M2) (hc : EV C c E M2 (.dat f) M') (hF : F d e f r) (hk : Nat.ble k C.k = true := by rfl) (hg : C.sc.names.lookup x = some .globalImplicit := by rfl) (hdb : (x == ("__debug__" : Str)) = false := by decide)
    (he : ∀ env, starEach [a, b, c] env = (false, eval a env) :: starEach [b, c] env := by intro _; rfl) (he2 : ∀ env, starEach [b, c] env = (false, eval b env) :: starEach [c] env := by intro _; rfl) (he3 : ∀ env, starEach [c] env = (false, eval c env) :: starEach [] env := by intro _; rfl) (hpl : ∀ env, (backTo pos (starEach [b, c] env)).any (·.1) = false := by intro _; rfl) : EV C (.Call (.Name x p) [a, b, c] [] pos) E M (.dat r) M' :=
  EV.call (ds := [d, e, f]) H (EA.cons ha (EA.cons hb (EA.cons hc EA.nil he3) he2) he) ⟨d, e, f, r, rfl, rfl, rfl, rfl, hF⟩ hk hg hdb he hpl
end

/-- a def that falls through -/
theorem FN.mkN1 {g : Pg} {st : Stmt} {N : List Str} {y x : Str} {k : Nat} {F : D → D → Prop} (T : TxtF g x st) (S : FnScope N [y] (defScope st))
    (hb : ∀ (kV doc pm : Value) (an : Option Addr) (cdv ct : Value) (us : List Value), us.length = 1 → bindArgs (PySem.W.fnOf x x (defArgs st) (defBody st) (defScope st) .none kV doc pm an cdv ct) ⟨us, []⟩ = pure ([y].zip us))
    (body : ∀ d r, F d r → r = .non ∧ ∃ E', SB (mkC g N st k) (defBody st) (pad N [.dat d]) [] (.nx E' [])) : FN g x (k + 1) (P1 F) := FN.mkNx T S hb (fun os M o M' h => by obtain ⟨d, r, rfl, _⟩ := h; rfl) (fun os M o M' h => by
  obtain ⟨d, r, rfl, rfl, rfl, rfl, h⟩ := h
  obtain ⟨e1, h1⟩ := body d r h
  exact ⟨congrArg O.dat e1, h1⟩)
theorem FN.mkN3 {g : Pg} {st : Stmt} {N : List Str} {y z u x : Str} {k : Nat} {F : D → D → D → D → Prop} (T : TxtF g x st) (S : FnScope N [y, z, u] (defScope st))
    (hb : ∀ (kV doc pm : Value) (an : Option Addr) (cdv ct : Value) (us : List Value), us.length = 3 → bindArgs (PySem.W.fnOf x x (defArgs st) (defBody st) (defScope st) .none kV doc pm an cdv ct) ⟨us, []⟩ = pure ([y, z, u].zip us))
    (body : ∀ d e f r, F d e f r → r = .non ∧ ∃ E', SB (mkC g N st k) (defBody st) (pad N [.dat d, .dat e, .dat f]) [] (.nx E' [])) : FN g x (k + 1) (P3 F) := FN.mkNx T S hb (fun os M o M' h => by obtain ⟨d, e, f, r, rfl, _⟩ := h; rfl) (fun os M o M' h => by
  obtain ⟨d, e, f, r, rfl, rfl, rfl, rfl, h⟩ := h
  obtain ⟨e1, h1⟩ := body d e f r h
  exact ⟨congrArg O.dat e1, h1⟩)

/-! ### rows and tables -/
abbrev tV (v : List Int) : D := .tup (v.map .int)
abbrev tM (m : List (List Int)) : D := .tup (m.map tV)
abbrev lV (v : List Int) : D := .lst (v.map .int)
abbrev lM (m : List (List Int)) : D := .lst (m.map lV)
end Ab
/-! Ab: cells lent to be read; the script; members. -/
namespace Ab
open PySem PySem.Spec PyProof.Rows L2

/-! ### a cell seen as data -/
mutual
inductive View (M : Mem) : O → D → Prop
  | dat (d : D) : View M (.dat d) d
  | cel {k : Nat} {os : List O} {ds : List D} (h : M[k]? = some (some os)) (r : Views M os ds) : View M (.adr k) (.lst ds)
inductive Views (M : Mem) : List O → List D → Prop
  | nil : Views M [] []
  | cons {o : O} {os : List O} {d : D} {ds : List D} (h : View M o d) (r : Views M os ds) : Views M (o :: os) (d :: ds)
end
mutual
inductive NoL : D → Prop
  | non : NoL .non
  | bl (b : Bool) : NoL (.bl b)
  | int (i : Int) : NoL (.int i)
  | str (s : Str) : NoL (.str s)
  | tup {ds : List D} (h : NoLs ds) : NoL (.tup ds)
inductive NoLs : List D → Prop
  | nil : NoLs []
  | cons {d : D} {ds : List D} (h : NoL d) (r : NoLs ds) : NoLs (d :: ds)
end
theorem NoLs.all : ∀ {ds : List D}, (∀ d ∈ ds, NoL d) → NoLs ds
  | [], _ => .nil
  | _ :: _, h => .cons (h _ List.mem_cons_self) (NoLs.all fun d hd => h d (List.mem_cons_of_mem _ hd))
theorem NoL.ints (v : List Int) : NoL (tV v) := .tup (NoLs.all fun d hd => by
  obtain ⟨i, _, rfl⟩ := List.mem_map.mp hd
  exact .int i)
theorem NoL.mat (m : List (List Int)) : NoL (tM m) := .tup (NoLs.all fun d hd => by
  obtain ⟨i, _, rfl⟩ := List.mem_map.mp hd
  exact NoL.ints i)
theorem Views.ints {M : Mem} : ∀ v : List D, Views M (v.map .dat) v
  | [] => .nil
  | _ :: v => .cons (.dat _) (Views.ints v)
mutual
theorem rep_back {I I' : Hp} (f : ∀ a xs, I a = some (.tup xs) → I' a = some (.tup xs)) : ∀ {d : D} {v : V}, NoL d → Rep I d v → Rep I' d v
  | _, _, .non, .non => .non
  | _, _, .bl _, .bl b => .bl b
  | _, _, .int _, .int i => .int i
  | _, _, .str _, .str s => .str s
  | _, _, .tup n, .tup h r => .tup (f _ _ h) (reps_back f n r)
theorem reps_back {I I' : Hp} (f : ∀ a xs, I a = some (.tup xs) → I' a = some (.tup xs)) : ∀ {ds : List D} {vs : List V}, NoLs ds → Reps I ds vs → Reps I' ds vs
  | _, _, .nil, .nil => .nil
  | _, _, .cons n m, .cons h r => .cons (rep_back f n h) (reps_back f m r)
end
mutual
theorem view_rep {I I' H : Hp} {adr : List Addr} {M : Mem} (s : Sto I H adr M) (e : Ex I I') (f : ∀ (k : Nat) (a : Addr) (os : List O), adr[k]? = some a → M[k]? = some (some os) → I' a = H a) : ∀ {o : O} {d : D} {v : V}, View M o d → Vo I adr o v → Rep I' d v
  | _, _, _, .dat d, h => Rep.mono e h
  | _, _, _, .cel (k := k) hm r, h => by
    obtain ⟨a, h1, rfl⟩ := h
    obtain ⟨_, xs, h2, h3⟩ := s.cell k a _ h1 hm
    exact .lst ((f k a _ h1 hm).trans h2) (views_rep s e f r h3)
theorem views_rep {I I' H : Hp} {adr : List Addr} {M : Mem} (s : Sto I H adr M) (e : Ex I I') (f : ∀ (k : Nat) (a : Addr) (os : List O), adr[k]? = some a → M[k]? = some (some os) → I' a = H a) : ∀ {os : List O} {ds : List D} {vs : List V}, Views M os ds → Vs I adr os vs → Reps I' ds vs
  | _, _, _, .nil, .nil => .nil
  | _, _, _, .cons h r, .cons q w => .cons (view_rep s e f h q) (views_rep s e f r w)
end
open Classical in
theorem ev_lend {R : Rel} {E : List O} {M M1 : Mem} {os : List O} {ds : List D} {d : D} {ta : TA} {E' : XK} (ha : Ea ta E M os M1) (hv : Views M1 os ds) (hR : R (ds.map .dat) [] (.dat d) []) (hn : NoL d) :
    Ev (tCall (spR R) [] E' ta) E M (.dat d) M1 := fun I H adr σ Q s q => ha I H adr σ _ s fun vs I1 H1 adr1 s1 g1 v1 => by
  let L : Addr → Prop := fun p => ∃ (k : Nat) (os : List O), adr1[k]? = some p ∧ M1[k]? = some (some os)
  let J : Hp := fun p => if L p then H1 p else I1 p
  have eJ : Ex I1 J := fun p o h => by
    show (if L p then H1 p else I1 p) = some o
    split
    · exact s1.ex p o h
    · exact h
  have eH : Ex J H1 := fun p o h => by
    have h' : (if L p then H1 p else I1 p) = some o := h
    split at h'
    · exact h'
    · exact s1.ex p o h'
  have fJ : ∀ (k : Nat) (a : Addr) (os : List O), adr1[k]? = some a → M1[k]? = some (some os) → J a = H1 a := fun k a os h1 h2 => if_pos ⟨k, os, h1, h2⟩
  show spR R (vs ++ []) H1 Q E'
  rw [List.append_nil]
  refine ⟨J, [], ds.map .dat, [], .dat d, [], hR, eH, ⟨rfl, List.nodup_nil, fun k a os h1 _ => by simp at h1, fun k a h1 => by simp at h1⟩, Vs.reps (views_rep s1.sto eJ fJ hv v1), fun z I2 H2 adr2 ex2 sto2 g2 v2 => ?_⟩
  let I3 : Hp := fun p => if L p then none else I2 p
  have nI : ∀ p, L p → I1 p = none := fun p hp => by
    obtain ⟨k, os, h1, h2⟩ := hp
    exact (s1.sto.cell k p os h1 h2).1
  have e3 : Ex I1 I3 := fun p o h => by
    have hp : ¬ L p := fun hl => by rw [nI p hl] at h; cases h
    show (if L p then none else I2 p) = some o
    rw [if_neg hp]
    exact g2.ex p o (eJ p o h)
  have e3H : Ex I3 H2 := fun p o h => by
    have h' : (if L p then none else I2 p) = some o := h
    split at h'
    · cases h'
    · exact ex2 p o h'
  have keep : ∀ p u, H1 p = some u → H2 p = some u := fun p u h => g2.keep p u h (by simp)
  have g3 : Grow I1 H1 adr1 I3 H2 adr1 := ⟨e3, ⟨[], by simp, by simp⟩, fun p u h _ => keep p u h, g2.dom, fun p u h h2 h3 => by
    have hp : ¬ L p := fun hl => by
      obtain ⟨k, os, h4, _⟩ := hl
      exact h3 (List.mem_of_getElem? h4)
    show (if L p then none else I2 p) = none
    rw [if_neg hp]
    exact g2.out p u h (by show (if L p then H1 p else I1 p) = none; rw [if_neg hp]; exact h2) (by simp)⟩
  have t3 : Sto I3 H2 adr1 M1 := ⟨s1.sto.len, s1.sto.nd, fun k a os h1 h2 => by
    obtain ⟨_, xs, h4, h5⟩ := s1.sto.cell k a os h1 h2
    exact ⟨if_pos ⟨k, os, h1, h2⟩, xs, keep a _ h4, h5.ext e3⟩, fun k a h => by
    obtain ⟨u, hu⟩ := s1.sto.dom k a h
    exact ⟨u, keep a u hu⟩⟩
  refine q z I3 H2 adr1 (s1.mono g3 e3H t3) (g1.trans g3) (rep_back (fun a xs h => ?_) hn v2)
  have hp : ¬ L a := fun hl => by
    obtain ⟨k, os, h1, h2⟩ := hl
    obtain ⟨_, ys, h4, _⟩ := s1.sto.cell k a os h1 h2
    have h5 := g2.ex a _ ((fJ k a os h1 h2).trans h4)
    rw [h] at h5
    cases h5
  show (if L a then none else I2 a) = _
  rw [if_neg hp]
  exact h
section
variable {C : Cc} {E E1 E2 E' : List O} {M M1 M2 M3 M' : Mem} {o o1 o2 o3 : O} {os : List O} {e a b c : Expr} {es : List Expr} {pos pos' p p2 pos2 : Pos} {d d1 d2 : D} {i j : Int} {n : Nat} {k k' : Bool} {r : Out} {body : List Stmt} {x y : Str} {ds : List D}
theorem EV.lend {R : Rel} {kf : Nat} {ds : List D} (F : FN C.g x kf R) (ha : EA C (e :: es) E M os M1) (hv : Views M1 os ds) (hR : R (ds.map .dat) [] (.dat d) []) (hn : NoL d) (hk : Nat.ble kf C.k = true := by rfl)
    (hg : C.sc.names.lookup x = some .globalImplicit := by rfl) (hdb : (x == ("__debug__" : Str)) = false := by decide) (he : ∀ env, starEach (e :: es) env = (false, eval e env) :: starEach es env := by intro _; rfl) (hpl : ∀ env, (backTo pos (starEach es env)).any (·.1) = false := by intro _; rfl) :
    EV C (.Call (.Name x p) (e :: es) [] pos) E M (.dat d) M1 := by
  obtain ⟨f, fd, ps, F, hm, hkp, hb⟩ := F
  refine EV.mk (t := tCall (spR R) [] E0 (UA C (e :: es))) (fun X hX => ?_) (ev_lend ha hv hR hn)
  refine pe_call (k := kf) (f := f) (fd := fd) (ps := ps) (by rw [hX.P, hX.w, hX.K, hX.mg, hX.base]; exact F) (hX.room.mono (Nat.le_of_ble_eq_true hk)) (by show X.env.scope.names.lookup x = _; rw [hX.sc]; exact hg) (by rw [hX.mg]; exact hm) (by rw [hX.K]; exact hkp) (by rw [hX.K]; exact hb) .nil pass0 (ua hX _) hdb (he X.env) (hpl X.env)
/-- a def that makes cells -/
theorem EV.callM {R : Rel} {kf : Nat} {ds : List D} {o0 : O} {M0' : Mem} (F : FN C.g x kf R) (ha : EA C (e :: es) E M (ds.map .dat) M1) (hR : R (ds.map .dat) [] o0 M0') (hq : o = o0.ren (fun k => M1.length + k)) (hM : M2 = M1 ++ M0'.map fun c => c.map fun ps => ps.map (·.ren fun k => M1.length + k)) (hk : Nat.ble kf C.k = true := by rfl)
    (hg : C.sc.names.lookup x = some .globalImplicit := by rfl) (hdb : (x == ("__debug__" : Str)) = false := by decide) (he : ∀ env, starEach (e :: es) env = (false, eval e env) :: starEach es env := by intro _; rfl) (hpl : ∀ env, (backTo pos (starEach es env)).any (·.1) = false := by intro _; rfl) :
    EV C (.Call (.Name x p) (e :: es) [] pos) E M o M2 := by
  have er : rho [] M1.length = fun k => M1.length + k := by
    funext k
    show M1.length + (k - 0) = _
    rw [Nat.sub_zero]
  subst hq hM
  rw [← er]
  refine EV.callG (ι := []) F ha hR (by rw [ren_dat]) ⟨rfl, List.nodup_nil, ?_, fun i k h => by simp at h, fun k os h => ?_⟩ hk hg hdb he hpl
  · rw [List.length_append, List.length_map]
    rfl
  · by_cases hk : k < M1.length
    · rw [List.getElem?_append_left hk] at h
      exact .inl ⟨by simp, h⟩
    · rw [List.getElem?_append_right (Nat.le_of_not_lt hk), List.getElem?_map] at h
      cases hc : M0'[k - M1.length]? with
      | none => rw [hc] at h; cases h
      | some c =>
        rw [hc] at h
        cases c with
        | none => cases h
        | some ps =>
          refine .inr ⟨k - M1.length, ps, ?_, .inr (Nat.zero_le _), hc, (Option.some.inj (Option.some.inj h)).symm⟩
          rw [er]
          show M1.length + (k - M1.length) = k
          omega

/-! ### the script -/
def Scr (K : PySem.W.Frag) (o : O) (xs : List V) : Prop := ∃ (a : Addr) (u : Option HO), o = .scr a u ∧ ∀ H : Hp, (∀ h, u = some h → H a = some h) → SqL K H a xs
theorem scr_sq {K : PySem.W.Frag} {xs : List V} {I H : Hp} {adr : List Addr} {v : V} (h : Scr K o xs) (hv : Vo I adr o v) (e : Ex I H) : ∃ a, v = .ref a ∧ SqL K H a xs := by
  obtain ⟨a, u, rfl, q⟩ := h
  exact ⟨a, hv.1, q H fun o' ho => e _ _ (hv.2 o' ho)⟩
theorem reps_ints {I : Hp} : ∀ ns : List Int, Reps I (ns.map D.int) (ns.map V.int)
  | [] => .nil
  | n :: ns => .cons (.int n) (reps_ints ns)
theorem EV.ixS {ns : List Int} (ha : EV C a E M o M1) (hb : EV C b E M1 (.dat (.int i)) M') (hs : Scr C.g.K o (ns.map V.int)) (h : atI (ns.map D.int) i = some d) (hp : PlainIx b := by exact fun _ _ => rfl) : EV C (.Subscript a b pos) E M (.dat d) M' :=
  EV.mk (t := tOp (rIx C.g.K) (UE C a) (UE C b)) (fun X hX => by
    have := pe_ix (pos := pos) ix_seq (ue hX a) (ue hX b) hp
    rw [hX.K] at this
    exact this) (ev_op ha hb fun I H adr σ E v w Q s hv hw q => by
      cases rep_int hw
      obtain ⟨p, rfl, hq⟩ := scr_sq hs hv s.ex
      obtain ⟨x, e1, e2⟩ := reps_atI (reps_ints (I := I) ns) h
      exact .inl ⟨p, _, i, x, rfl, rfl, hq, e1, q x I H adr s Grow.refl e2⟩)
theorem EV.slS {ns : List Int} {lo hi : Option Expr} {l u : Option Int} (ha : EV C a E M o M1) (hl : EO C lo E M1 l M2) (hh : EO C hi E M2 u M') (hs : Scr C.g.K o (ns.map V.int)) : EV C (.Subscript a (.Slice lo hi none p) pos) E M (.dat (.lst (cutD (ns.map D.int) l u))) M' :=
  EV.mk (t := tSl (rSlL C.g.K) (UE C a) (UO C lo) (UO C hi)) (fun X hX => by
    have := pe_slice (p2 := p) (pos := pos) (sl_list (X := X)) (ue hX a) (uo hX lo) (uo hX hi)
    rw [hX.K] at this
    exact this) fun I H adr σ Q s q => ha I H adr σ _ s fun v I1 H1 adr1 s1 g1 v1 => hl I1 H1 adr1 σ _ s1 fun I2 H2 adr2 s2 g2 => hh I2 H2 adr2 σ _ s2 fun I3 H3 adr3 s3 g3 => by
      obtain ⟨b, rfl, hq⟩ := scr_sq hs ((v1.mono g2).mono g3) s3.ex
      refine ⟨b, _, rfl, hq, fun p hp => ?_⟩
      obtain ⟨s4, g4, r4⟩ := s3.lst hp (reps_cut (reps_ints (I := I3) ns) l u)
      exact q _ _ _ _ s4 (((g1.trans g2).trans g3).trans g4) r4

/-! ### members -/
def inI (i : Int) (ns : List Int) : Bool := ns.any fun n => n == i
theorem inV_ints {i : Int} : ∀ ns : List Int, inV (.int i) (ns.map V.int) = inI i ns
  | [] => rfl
  | n :: ns => by
    show (eqV (.int n) (.int i) || inV (.int i) (ns.map V.int)) = (n == i || inI i ns)
    rw [inV_ints ns]
    rfl
theorem flat_ints (ns : List Int) : (ns.map V.int).all flatV = true := by
  rw [List.all_map, List.all_eq_true]
  intro x _
  rfl
theorem CS.inI {ns : List Int} : CS C .In (.dat (.int i)) (.dat (.lst (ns.map .int))) M (.dat (.bl (inI i ns))) M := ⟨rIn C.g.K false, fun X hX => by
  have := op_in_seq (X := X)
  rw [hX.K] at this
  exact this, fun I H adr σ E v w Q s hv hw q => by
  cases rep_int hv
  cases (show Rep I (.lst (ns.map .int)) w from hw) with
  | @lst p xs _ hp hr =>
    have e := reps_int hr
    subst e
    refine ⟨p, _, rfl, .inl (.inl (.inl (s.ex _ _ hp))), rfl, flat_ints ns, ?_⟩
    show Q (.bl (inV _ _)) H
    rw [inV_ints]
    exact q _ I H adr s Grow.refl (.bl _)⟩
theorem CS.notInI {ns : List Int} : CS C .NotIn (.dat (.int i)) (.dat (.lst (ns.map .int))) M (.dat (.bl (!Ab.inI i ns))) M := ⟨rIn C.g.K true, fun X hX => by
  have := op_notIn_seq (X := X)
  rw [hX.K] at this
  exact this, fun I H adr σ E v w Q s hv hw q => by
  cases rep_int hv
  cases (show Rep I (.lst (ns.map .int)) w from hw) with
  | @lst p xs _ hp hr =>
    have e := reps_int hr
    subst e
    refine ⟨p, _, rfl, .inl (.inl (.inl (s.ex _ _ hp))), rfl, flat_ints ns, ?_⟩
    show Q (.bl (!inV _ _)) H
    rw [inV_ints]
    exact q _ I H adr s Grow.refl (.bl _)⟩
end
end Ab
namespace Ab
open PySem PySem.Spec PyProof.Rows L2
def top (i : Nat) : Stmt := PySem.Challenge.pw_multipliedout_k00_whole_reckoning.main.body.getD i (.Pass ⟨0, 0, 0, 0⟩)
abbrev s_is_number : Stmt := top 9
abbrev n_is_number : List Str := ["value"]
theorem c_is_number : FnScope n_is_number ["value"] (defScope s_is_number) := ⟨rfl, rfl, rfl, by decide +kernel, rfl, by decide +kernel, by decide +kernel⟩
-- 0:value
abbrev s_is_from_to : Stmt := top 10
abbrev n_is_from_to : List Str := ["value", "least", "most"]
theorem c_is_from_to : FnScope n_is_from_to ["value", "least", "most"] (defScope s_is_from_to) := ⟨rfl, rfl, rfl, by decide +kernel, rfl, by decide +kernel, by decide +kernel⟩
-- 0:value 1:least 2:most
abbrev s_is_row : Stmt := top 11
abbrev n_is_row : List Str := ["value"]
theorem c_is_row : FnScope n_is_row ["value"] (defScope s_is_row) := ⟨rfl, rfl, rfl, by decide +kernel, rfl, by decide +kernel, by decide +kernel⟩
-- 0:value
abbrev s_check_number : Stmt := top 12
abbrev n_check_number : List Str := ["value", "least", "most"]
theorem c_check_number : FnScope n_check_number ["value", "least", "most"] (defScope s_check_number) := ⟨rfl, rfl, rfl, by decide +kernel, rfl, by decide +kernel, by decide +kernel⟩
-- 0:value 1:least 2:most
abbrev s_is_vector : Stmt := top 13
abbrev n_is_vector : List Str := ["value", "one"]
theorem c_is_vector : FnScope n_is_vector ["value"] (defScope s_is_vector) := ⟨rfl, rfl, rfl, by decide +kernel, rfl, by decide +kernel, by decide +kernel⟩
-- 0:value 1:one
abbrev s_is_matrix : Stmt := top 14
abbrev n_is_matrix : List Str := ["value", "row"]
theorem c_is_matrix : FnScope n_is_matrix ["value"] (defScope s_is_matrix) := ⟨rfl, rfl, rfl, by decide +kernel, rfl, by decide +kernel, by decide +kernel⟩
-- 0:value 1:row
abbrev s_checked_vector : Stmt := top 15
abbrev n_checked_vector : List Str := ["v"]
theorem c_checked_vector : FnScope n_checked_vector ["v"] (defScope s_checked_vector) := ⟨rfl, rfl, rfl, by decide +kernel, rfl, by decide +kernel, by decide +kernel⟩
-- 0:v
abbrev s_checked_matrix : Stmt := top 16
abbrev n_checked_matrix : List Str := ["a", "row"]
theorem c_checked_matrix : FnScope n_checked_matrix ["a"] (defScope s_checked_matrix) := ⟨rfl, rfl, rfl, by decide +kernel, rfl, by decide +kernel, by decide +kernel⟩
-- 0:a 1:row
abbrev s_check_sizes : Stmt := top 17
abbrev n_check_sizes : List Str := ["fits"]
theorem c_check_sizes : FnScope n_check_sizes ["fits"] (defScope s_check_sizes) := ⟨rfl, rfl, rfl, by decide +kernel, rfl, by decide +kernel, by decide +kernel⟩
-- 0:fits
abbrev s_checked_pair : Stmt := top 18
abbrev n_checked_pair : List Str := ["a", "b", "one", "other"]
theorem c_checked_pair : FnScope n_checked_pair ["a", "b"] (defScope s_checked_pair) := ⟨rfl, rfl, rfl, by decide +kernel, rfl, by decide +kernel, by decide +kernel⟩
-- 0:a 1:b 2:one 3:other
abbrev s_checked_with : Stmt := top 19
abbrev n_checked_with : List Str := ["a", "v", "one", "other"]
theorem c_checked_with : FnScope n_checked_with ["a", "v"] (defScope s_checked_with) := ⟨rfl, rfl, rfl, by decide +kernel, rfl, by decide +kernel, by decide +kernel⟩
-- 0:a 1:v 2:one 3:other
abbrev s_greatest_divisor : Stmt := top 20
abbrev n_greatest_divisor : List Str := ["one", "other", "rest"]
theorem c_greatest_divisor : FnScope n_greatest_divisor ["one", "other"] (defScope s_greatest_divisor) := ⟨rfl, rfl, rfl, by decide +kernel, rfl, by decide +kernel, by decide +kernel⟩
-- 0:one 1:other 2:rest
abbrev s_divisor_of : Stmt := top 21
abbrev n_divisor_of : List Str := ["numbers", "found", "one"]
theorem c_divisor_of : FnScope n_divisor_of ["numbers"] (defScope s_divisor_of) := ⟨rfl, rfl, rfl, by decide +kernel, rfl, by decide +kernel, by decide +kernel⟩
-- 0:numbers 1:found 2:one
abbrev s_times : Stmt := top 23
abbrev n_times : List Str := ["one", "other", "left", "right"]
theorem c_times : FnScope n_times ["one", "other"] (defScope s_times) := ⟨rfl, rfl, rfl, by decide +kernel, rfl, by decide +kernel, by decide +kernel⟩
-- 0:one 1:other 2:left 3:right
abbrev s_flipped : Stmt := top 24
abbrev n_flipped : List Str := ["a", "at", "row"]
theorem c_flipped : FnScope n_flipped ["a"] (defScope s_flipped) := ⟨rfl, rfl, rfl, by decide +kernel, rfl, by decide +kernel, by decide +kernel⟩
-- 0:a 1:at 2:row
abbrev s_multiplied : Stmt := top 25
abbrev n_multiplied : List Str := ["a", "b", "columns", "row", "column"]
theorem c_multiplied : FnScope n_multiplied ["a", "b"] (defScope s_multiplied) := ⟨rfl, rfl, rfl, by decide +kernel, rfl, by decide +kernel, by decide +kernel⟩
-- 0:a 1:b 2:columns 3:row 4:column
abbrev s_led_by : Stmt := top 26
abbrev n_led_by : List Str := ["v", "a", "at", "one", "row"]
theorem c_led_by : FnScope n_led_by ["v", "a"] (defScope s_led_by) := ⟨rfl, rfl, rfl, by decide +kernel, rfl, by decide +kernel, by decide +kernel⟩
-- 0:v 1:a 2:at 3:one 4:row
abbrev s_onto : Stmt := top 27
abbrev n_onto : List Str := ["a", "v", "row"]
theorem c_onto : FnScope n_onto ["a", "v"] (defScope s_onto) := ⟨rfl, rfl, rfl, by decide +kernel, rfl, by decide +kernel, by decide +kernel⟩
-- 0:a 1:v 2:row
abbrev s_unit : Stmt := top 28
abbrev n_unit : List Str := ["n", "row", "at"]
theorem c_unit : FnScope n_unit ["n"] (defScope s_unit) := ⟨rfl, rfl, rfl, by decide +kernel, rfl, by decide +kernel, by decide +kernel⟩
-- 0:n 1:row 2:at
abbrev s_many_times : Stmt := top 29
abbrev n_many_times : List Str := ["a", "k", "row", "one"]
theorem c_many_times : FnScope n_many_times ["a", "k"] (defScope s_many_times) := ⟨rfl, rfl, rfl, by decide +kernel, rfl, by decide +kernel, by decide +kernel⟩
-- 0:a 1:k 2:row 3:one
abbrev s_added : Stmt := top 30
abbrev n_added : List Str := ["a", "b", "row", "its", "one", "other"]
theorem c_added : FnScope n_added ["a", "b"] (defScope s_added) := ⟨rfl, rfl, rfl, by decide +kernel, rfl, by decide +kernel, by decide +kernel⟩
-- 0:a 1:b 2:row 3:its 4:one 5:other
abbrev s_product : Stmt := top 32
abbrev n_product : List Str := ["a", "b", "one", "other"]
theorem c_product : FnScope n_product ["a", "b"] (defScope s_product) := ⟨rfl, rfl, rfl, by decide +kernel, rfl, by decide +kernel, by decide +kernel⟩
-- 0:a 1:b 2:one 3:other
abbrev s_row_times : Stmt := top 33
abbrev n_row_times : List Str := ["v", "a", "row", "one"]
theorem c_row_times : FnScope n_row_times ["v", "a"] (defScope s_row_times) := ⟨rfl, rfl, rfl, by decide +kernel, rfl, by decide +kernel, by decide +kernel⟩
-- 0:v 1:a 2:row 3:one
abbrev s_times_column : Stmt := top 34
abbrev n_times_column : List Str := ["a", "v", "one", "column"]
theorem c_times_column : FnScope n_times_column ["a", "v"] (defScope s_times_column) := ⟨rfl, rfl, rfl, by decide +kernel, rfl, by decide +kernel, by decide +kernel⟩
-- 0:a 1:v 2:one 3:column
abbrev s_transposed : Stmt := top 35
abbrev n_transposed : List Str := ["a"]
theorem c_transposed : FnScope n_transposed ["a"] (defScope s_transposed) := ⟨rfl, rfl, rfl, by decide +kernel, rfl, by decide +kernel, by decide +kernel⟩
-- 0:a
abbrev s_alike_in_size : Stmt := top 36
abbrev n_alike_in_size : List Str := ["a", "b", "one", "other"]
theorem c_alike_in_size : FnScope n_alike_in_size ["a", "b"] (defScope s_alike_in_size) := ⟨rfl, rfl, rfl, by decide +kernel, rfl, by decide +kernel, by decide +kernel⟩
-- 0:a 1:b 2:one 3:other
abbrev s_plus : Stmt := top 37
abbrev n_plus : List Str := ["a", "b", "one", "other"]
theorem c_plus : FnScope n_plus ["a", "b"] (defScope s_plus) := ⟨rfl, rfl, rfl, by decide +kernel, rfl, by decide +kernel, by decide +kernel⟩
-- 0:a 1:b 2:one 3:other
abbrev s_minus : Stmt := top 38
abbrev n_minus : List Str := ["a", "b", "one", "other"]
theorem c_minus : FnScope n_minus ["a", "b"] (defScope s_minus) := ⟨rfl, rfl, rfl, by decide +kernel, rfl, by decide +kernel, by decide +kernel⟩
-- 0:a 1:b 2:one 3:other
abbrev s_scaled : Stmt := top 39
abbrev n_scaled : List Str := ["a", "k", "one"]
theorem c_scaled : FnScope n_scaled ["a", "k"] (defScope s_scaled) := ⟨rfl, rfl, rfl, by decide +kernel, rfl, by decide +kernel, by decide +kernel⟩
-- 0:a 1:k 2:one
abbrev s_identity : Stmt := top 40
abbrev n_identity : List Str := ["n"]
theorem c_identity : FnScope n_identity ["n"] (defScope s_identity) := ⟨rfl, rfl, rfl, by decide +kernel, rfl, by decide +kernel, by decide +kernel⟩
-- 0:n
abbrev s_stacked : Stmt := top 41
abbrev n_stacked : List Str := ["a", "b", "one", "other"]
theorem c_stacked : FnScope n_stacked ["a", "b"] (defScope s_stacked) := ⟨rfl, rfl, rfl, by decide +kernel, rfl, by decide +kernel, by decide +kernel⟩
-- 0:a 1:b 2:one 3:other
abbrev s_beside : Stmt := top 42
abbrev n_beside : List Str := ["a", "b", "one", "other", "row", "its"]
theorem c_beside : FnScope n_beside ["a", "b"] (defScope s_beside) := ⟨rfl, rfl, rfl, by decide +kernel, rfl, by decide +kernel, by decide +kernel⟩
-- 0:a 1:b 2:one 3:other 4:row 5:its
abbrev s_divisor : Stmt := top 43
abbrev n_divisor : List Str := ["v"]
theorem c_divisor : FnScope n_divisor ["v"] (defScope s_divisor) := ⟨rfl, rfl, rfl, by decide +kernel, rfl, by decide +kernel, by decide +kernel⟩
-- 0:v
abbrev s_law_draws : Stmt := top 45
abbrev n_law_draws : List Str := ["script", "many", "told", "cell", "number", "k", "state"]
theorem c_law_draws : FnScope n_law_draws ["script", "many"] (defScope s_law_draws) := ⟨rfl, rfl, rfl, by decide +kernel, rfl, by decide +kernel, by decide +kernel⟩
-- 0:script 1:many 2:told 3:cell 4:number 5:k 6:state
abbrev s_law_take : Stmt := top 46
abbrev n_law_take : List Str := ["row", "bound"]
theorem c_law_take : FnScope n_law_take ["row", "bound"] (defScope s_law_take) := ⟨rfl, rfl, rfl, by decide +kernel, rfl, by decide +kernel, by decide +kernel⟩
-- 0:row 1:bound
abbrev s_law_like : Stmt := top 47
abbrev n_law_like : List Str := ["told", "due", "k"]
theorem c_law_like : FnScope n_law_like ["told", "due"] (defScope s_law_like) := ⟨rfl, rfl, rfl, by decide +kernel, rfl, by decide +kernel, by decide +kernel⟩
-- 0:told 1:due 2:k
abbrev s_law_most : Stmt := top 48
abbrev n_law_most : List Str := ["a", "most", "line", "x"]
theorem c_law_most : FnScope n_law_most ["a"] (defScope s_law_most) := ⟨rfl, rfl, rfl, by decide +kernel, rfl, by decide +kernel, by decide +kernel⟩
-- 0:a 1:most 2:line 3:x
abbrev s_law_near : Stmt := top 49
abbrev n_law_near : List Str := ["at", "x", "y"]
theorem c_law_near : FnScope n_law_near ["at", "x", "y"] (defScope s_law_near) := ⟨rfl, rfl, rfl, by decide +kernel, rfl, by decide +kernel, by decide +kernel⟩
-- 0:at 1:x 2:y
abbrev s_law_gcd : Stmt := top 50
abbrev n_law_gcd : List Str := ["v", "told", "x", "rest", "k", "other"]
theorem c_law_gcd : FnScope n_law_gcd ["v"] (defScope s_law_gcd) := ⟨rfl, rfl, rfl, by decide +kernel, rfl, by decide +kernel, by decide +kernel⟩
-- 0:v 1:told 2:x 3:rest 4:k 5:other
abbrev s_law_table : Stmt := top 51
abbrev n_law_table : List Str := ["at", "x", "y", "told", "i", "j", "line", "k", "z"]
theorem c_law_table : FnScope n_law_table ["at", "x", "y"] (defScope s_law_table) := ⟨rfl, rfl, rfl, by decide +kernel, rfl, by decide +kernel, by decide +kernel⟩
-- 0:at 1:x 2:y 3:told 4:i 5:j 6:line 7:k 8:z
abbrev s_law_due : Stmt := top 52
abbrev n_law_due : List Str := ["at", "x", "y", "j", "i", "line"]
theorem c_law_due : FnScope n_law_due ["at", "x", "y"] (defScope s_law_due) := ⟨rfl, rfl, rfl, by decide +kernel, rfl, by decide +kernel, by decide +kernel⟩
-- 0:at 1:x 2:y 3:j 4:i 5:line
abbrev s_law_numbers : Stmt := top 53
abbrev n_law_numbers : List Str := ["row", "m", "wide", "told", "j"]
theorem c_law_numbers : FnScope n_law_numbers ["row", "m", "wide"] (defScope s_law_numbers) := ⟨rfl, rfl, rfl, by decide +kernel, rfl, by decide +kernel, by decide +kernel⟩
-- 0:row 1:m 2:wide 3:told 4:j
abbrev s_law_drawn : Stmt := top 54
abbrev n_law_drawn : List Str := ["row", "n", "m", "wide", "i"]
theorem c_law_drawn : FnScope n_law_drawn ["row", "n", "m", "wide"] (defScope s_law_drawn) := ⟨rfl, rfl, rfl, by decide +kernel, rfl, by decide +kernel, by decide +kernel⟩
-- 0:row 1:n 2:m 3:wide 4:i
abbrev s_law_fitting : Stmt := top 55
abbrev n_law_fitting : List Str := ["row", "at", "x", "pool", "wide", "n", "m", "t", "near", "y", "p", "k"]
theorem c_law_fitting : FnScope n_law_fitting ["row", "at", "x", "pool", "wide"] (defScope s_law_fitting) := ⟨rfl, rfl, rfl, by decide +kernel, rfl, by decide +kernel, by decide +kernel⟩
-- 0:row 1:at 2:x 3:pool 4:wide 5:n 6:m 7:t 8:near 9:y 10:p 11:k
abbrev s_law_loose : Stmt := top 56
abbrev n_law_loose : List Str := ["thing", "x"]
theorem c_law_loose : FnScope n_law_loose ["thing"] (defScope s_law_loose) := ⟨rfl, rfl, rfl, by decide +kernel, rfl, by decide +kernel, by decide +kernel⟩
-- 0:thing 1:x
abbrev s_law_firm : Stmt := top 57
abbrev n_law_firm : List Str := ["thing", "x"]
theorem c_law_firm : FnScope n_law_firm ["thing"] (defScope s_law_firm) := ⟨rfl, rfl, rfl, by decide +kernel, rfl, by decide +kernel, by decide +kernel⟩
-- 0:thing 1:x
abbrev s_law_asked : Stmt := top 58
abbrev n_law_asked : List Str := ["row", "at", "x", "y", "due", "left", "right", "i", "j"]
theorem c_law_asked : FnScope n_law_asked ["row", "at", "x", "y"] (defScope s_law_asked) := ⟨rfl, rfl, rfl, by decide +kernel, rfl, by decide +kernel, by decide +kernel⟩
-- 0:row 1:at 2:x 3:y 4:due 5:left 6:right 7:i 8:j
abbrev s_law : Stmt := top 59
abbrev n_law : List Str := ["script", "row", "wide", "most", "pool", "k", "start", "first", "at", "x", "y", "due"]
theorem c_law : FnScope n_law ["script"] (defScope s_law) := ⟨rfl, rfl, rfl, by decide +kernel, rfl, by decide +kernel, by decide +kernel⟩
-- 0:script 1:row 2:wide 3:most 4:pool 5:k 6:start 7:first 8:at 9:x 10:y 11:due
structure Wd (g : Pg) : Prop where
  b : Bs g
  t_is_number : TxtF g "is_number" s_is_number
  t_is_from_to : TxtF g "is_from_to" s_is_from_to
  t_is_row : TxtF g "is_row" s_is_row
  t_check_number : TxtF g "check_number" s_check_number
  t_is_vector : TxtF g "is_vector" s_is_vector
  t_is_matrix : TxtF g "is_matrix" s_is_matrix
  t_checked_vector : TxtF g "checked_vector" s_checked_vector
  t_checked_matrix : TxtF g "checked_matrix" s_checked_matrix
  t_check_sizes : TxtF g "check_sizes" s_check_sizes
  t_checked_pair : TxtF g "checked_pair" s_checked_pair
  t_checked_with : TxtF g "checked_with" s_checked_with
  t_greatest_divisor : TxtF g "greatest_divisor" s_greatest_divisor
  t_divisor_of : TxtF g "divisor_of" s_divisor_of
  t_times : TxtF g "times" s_times
  t_flipped : TxtF g "flipped" s_flipped
  t_multiplied : TxtF g "multiplied" s_multiplied
  t_led_by : TxtF g "led_by" s_led_by
  t_onto : TxtF g "onto" s_onto
  t_unit : TxtF g "unit" s_unit
  t_many_times : TxtF g "many_times" s_many_times
  t_added : TxtF g "added" s_added
  t_product : TxtF g "product" s_product
  t_row_times : TxtF g "row_times" s_row_times
  t_times_column : TxtF g "times_column" s_times_column
  t_transposed : TxtF g "transposed" s_transposed
  t_alike_in_size : TxtF g "alike_in_size" s_alike_in_size
  t_plus : TxtF g "plus" s_plus
  t_minus : TxtF g "minus" s_minus
  t_scaled : TxtF g "scaled" s_scaled
  t_identity : TxtF g "identity" s_identity
  t_stacked : TxtF g "stacked" s_stacked
  t_beside : TxtF g "beside" s_beside
  t_divisor : TxtF g "divisor" s_divisor
  t_law_draws : TxtF g "_law_draws" s_law_draws
  t_law_take : TxtF g "_law_take" s_law_take
  t_law_like : TxtF g "_law_like" s_law_like
  t_law_most : TxtF g "_law_most" s_law_most
  t_law_near : TxtF g "_law_near" s_law_near
  t_law_gcd : TxtF g "_law_gcd" s_law_gcd
  t_law_table : TxtF g "_law_table" s_law_table
  t_law_due : TxtF g "_law_due" s_law_due
  t_law_numbers : TxtF g "_law_numbers" s_law_numbers
  t_law_drawn : TxtF g "_law_drawn" s_law_drawn
  t_law_fitting : TxtF g "_law_fitting" s_law_fitting
  t_law_loose : TxtF g "_law_loose" s_law_loose
  t_law_firm : TxtF g "_law_firm" s_law_firm
  t_law_asked : TxtF g "_law_asked" s_law_asked
  t_law : TxtF g "law" s_law
  g_MOST_SIZE : ∃ t, g.mg "MOST_SIZE" = some (.int 8 t)
  g_MOST_NUMBER : ∃ t, g.mg "MOST_NUMBER" = some (.int 1000000 t)
/-! ### looks -/
section
variable {g : Pg}
def isFT (d : D) (l m : Int) : Bool := match d with
  | .int i => decide (l ≤ i) && decide (i ≤ m)
  | _ => false
def D.isSeq (d : D) : Bool := d.isLst || d.isTup
def F_is_number (d r : D) : Prop := r = .bl d.isNum
theorem ok_is_number (W : Wd g) : FN g "is_number" 1 (P1 F_is_number) := by
  refine FN.mk1 W.t_is_number c_is_number (fun _ _ _ _ _ _ us hl => match us, hl with | [_], _ => rfl) (fun d r h => ?_)
  subst h
  exact SB.one (ST.ret (EV.to (EV.and (EV.isInt (EV.nm 0) W.b.isinstance W.b.int) (fun _ => EV.and1 (EV.not (EV.isBool (EV.nm 0) W.b.isinstance W.b.bool))) (fun _ => rfl)) (by cases d <;> rfl)))
def F_is_from_to (d e f r : D) : Prop := ∃ l m, e = .int l ∧ f = .int m ∧ r = .bl (isFT d l m)
theorem ok_is_from_to (W : Wd g) : FN g "is_from_to" 2 (P3 F_is_from_to) := by
  refine FN.mk3 W.t_is_from_to c_is_from_to (fun _ _ _ _ _ _ us hl => match us, hl with | [_, _, _], _ => rfl) (fun d e f r h => ?_)
  obtain ⟨l, m, rfl, rfl, rfl⟩ := h
  cases d with
  | int i => exact SB.one (ST.ret (EV.to (EV.and (EV.c1 (ok_is_number W) (EV.nm 0) (by exact rfl)) (fun _ => EV.and1 (EV.chain (M4 := []) (EV.nm 1) (EV.nm 0) CS.leI (fun _ => EV.nm 2) (fun _ => CS.leI) (fun _ => rfl))) (fun _ => rfl)) rfl))
  | _ => exact SB.one (ST.ret (EV.to (EV.and (k1 := false) (k2 := false) (EV.c1 (ok_is_number W) (EV.nm 0) (by exact rfl)) (fun z => nomatch z) (fun _ => rfl)) rfl))
def F_is_row (d r : D) : Prop := r = .bl d.isSeq
theorem ok_is_row (W : Wd g) : FN g "is_row" 1 (P1 F_is_row) := by
  refine FN.mk1 W.t_is_row c_is_row (fun _ _ _ _ _ _ us hl => match us, hl with | [_], _ => rfl) (fun d r h => ?_)
  subst h
  exact SB.one (ST.ret (EV.isi2 (EV.nm 0) W.b.isinstance W.b.list W.b.tuple bv_list bv_tuple kit_list kit_tuple))
theorem seq_of {d : D} {ds : List D} (h : seqD d = some ds) : d.isSeq = true ∧ lenD d = some ds.length := by
  cases d <;> first | (cases h; exact ⟨rfl, rfl⟩) | cases h
theorem seq_no {d : D} (h : seqD d = none) : d.isSeq = false := by
  cases d <;> first | rfl | cases h
def isVec (d : D) : Bool := match seqD d with
  | some ds => (decide ((1 : Int) ≤ ds.length) && decide ((ds.length : Int) ≤ 8)) && ds.all fun e => isFT e (-1000000) 1000000
  | none => false
theorem gd1 {b : Bool} (h : (!true || !b) = true) : b = false := by cases b <;> simp_all
theorem gd2 {b : Bool} (h : (!true || !b) = false) : b = true := by cases b <;> simp_all
theorem all_map {α : Type} (f : α → Bool) (xs : List α) : (xs.map f).all id = xs.all f := by
  rw [List.all_map]
  rfl
theorem ok_is_vector (W : Wd g) : FN g "is_vector" 3 (P1 fun d r => r = .bl (isVec d)) := by
  refine FN.mk1 W.t_is_vector c_is_vector (fun _ _ _ _ _ _ us hl => match us, hl with | [_], _ => rfl) (fun d r h => ?_)
  subst h
  obtain ⟨tk, gS⟩ := W.g_MOST_SIZE
  obtain ⟨tk2, gN⟩ := W.g_MOST_NUMBER
  cases hd : seqD d with
  | none =>
    refine SB.guard (EW.et (EW.or (k1 := !d.isSeq) (k2 := false) (ET.not (ET.val (EV.c1 (ok_is_row W) (EV.nm 0) (by exact rfl)))) (fun z => by rw [seq_no hd] at z; cases z) (fun _ => rfl))) (fun _ => SB.one (ST.ret (EV.to EV.bl ?_))) (fun z => by rw [seq_no hd] at z; cases z)
    unfold isVec
    rw [hd]
  | some ds =>
    obtain ⟨h1, h2⟩ := seq_of hd
    refine SB.guard (EW.et (EW.or (ET.not (ET.val (EV.c1 (ok_is_row W) (EV.nm 0) (by exact rfl)))) (fun _ => EW.or1 (ET.not (ET.chain EV.int (EV.len (EV.nm 0) h2 W.b.len) CS.leI (fun _ => EV.gint gS) (fun _ => CS.leI) (fun _ => rfl)))) (fun _ => rfl))) (fun z => ?_) (fun z => ?_)
    · refine SB.one (ST.ret (EV.to EV.bl ?_))
      unfold isVec
      rw [hd]
      rw [h1] at z
      have z' : (decide ((1 : Int) ≤ ds.length) && decide ((ds.length : Int) ≤ 8)) = false := gd1 z
      show O.dat (.bl false) = O.dat (.bl ((decide ((1 : Int) ≤ ds.length) && decide ((ds.length : Int) ≤ 8)) && _))
      rw [z', Bool.false_and]
    · rw [h1] at z
      have z' : (decide ((1 : Int) ≤ ds.length) && decide ((ds.length : Int) ≤ 8)) = true := gd2 z
      have hlen : ds.length < 100000 := by
        rw [Bool.and_eq_true, decide_eq_true_eq, decide_eq_true_eq] at z'
        omega
      refine SB.one (ST.ret (EV.to (EV.all (bs := ds.map fun e => isFT e (-1000000) 1000000) ?_ W.b.all) ?_))
      · rw [List.map_map]
        exact LC.ev (LC.lM 1 (xs := ds) (f := fun e => e) (own := [("one", 1)]) (by rfl) c_is_vector.nd rfl (EV.nm 0) (by rw [hd, List.map_id']) (Nat.le_refl _) OkM.refl hlen
          (fun y _ M => EV.c3 (ok_is_from_to W) (EV.nm 1) (EV.neg (EV.gint gN)) (EV.gint gN) ⟨-1000000, 1000000, rfl, rfl, rfl⟩))
      · unfold isVec
        rw [hd, all_map]
        show _ = O.dat (.bl ((decide ((1 : Int) ≤ ds.length) && decide ((ds.length : Int) ≤ 8)) && _))
        rw [z', Bool.true_and]
def isMat (d : D) : Bool := match seqD d with
  | some ds => (decide ((1 : Int) ≤ ds.length) && decide ((ds.length : Int) ≤ 8)) && (ds.all isVec && ds.all fun e => decide (((lenD e).getD 0 : Nat) = ((lenD (ds.headD .non)).getD 0 : Nat)))
  | none => false
theorem vec_len {e : D} (h : isVec e = true) : ∃ es, seqD e = some es ∧ lenD e = some es.length := by
  unfold isVec at h
  cases hd : seqD e with
  | none => rw [hd] at h; cases h
  | some es => exact ⟨es, rfl, (seq_of hd).2⟩
theorem gd3 {b c : Bool} (h : (!true || (!b || !c)) = true) : (b && c) = false := by cases b <;> cases c <;> simp_all
theorem gd4 {b c : Bool} (h : (!true || (!b || !c)) = false) : b = true ∧ c = true := by cases b <;> cases c <;> simp_all
theorem ok_is_matrix (W : Wd g) : FN g "is_matrix" 4 (P1 fun d r => r = .bl (isMat d)) := by
  refine FN.mk1 W.t_is_matrix c_is_matrix (fun _ _ _ _ _ _ us hl => match us, hl with | [_], _ => rfl) (fun d r h => ?_)
  subst h
  obtain ⟨tk, gS⟩ := W.g_MOST_SIZE
  cases hd : seqD d with
  | none =>
    refine SB.guard (EW.et (EW.or (k1 := !d.isSeq) (k2 := false) (ET.not (ET.val (EV.c1 (ok_is_row W) (EV.nm 0) (by exact rfl)))) (fun z => by rw [seq_no hd] at z; cases z) (fun _ => rfl))) (fun _ => SB.one (ST.ret (EV.to EV.bl ?_))) (fun z => by rw [seq_no hd] at z; cases z)
    unfold isMat
    rw [hd]
  | some ds =>
    obtain ⟨h1, h2⟩ := seq_of hd
    have hall : ∀ {q1 : Pos} {E : List O} (hlen : (decide ((1 : Int) ≤ ds.length) && decide ((ds.length : Int) ≤ 8)) = true), ds.length < 100000 := fun {_ _} z => by
      rw [Bool.and_eq_true, decide_eq_true_eq, decide_eq_true_eq] at z
      omega
    refine SB.guard (k := !d.isSeq || (!(decide ((1 : Int) ≤ ds.length) && decide ((ds.length : Int) ≤ 8)) || !(ds.map isVec).all id)) (EW.et (EW.or (ET.not (ET.val (EV.c1 (ok_is_row W) (EV.nm 0) (by exact rfl)))) (fun _ => EW.or (ET.not (ET.chain EV.int (EV.len (EV.nm 0) h2 W.b.len) CS.leI (fun _ => EV.gint gS) (fun _ => CS.leI) (fun _ => rfl))) (fun z => EW.or1 (ET.not (ET.val (EV.all ?_ W.b.all)))) (fun _ => rfl)) (fun _ => rfl))) (fun z => ?_) (fun z => ?_)
    · rw [List.map_map]
      exact LC.ev (LC.lM 1 (xs := ds) (f := fun e => e) (own := [("row", 1)]) (by rfl) c_is_matrix.nd rfl (EV.nm 0) (by rw [hd, List.map_id']) (Nat.le_refl _) OkM.refl (hall (q1 := ⟨0, 0, 0, 0⟩) (E := []) (by simpa using z))
          (fun y _ M => EV.c1 (ok_is_vector W) (EV.nm 1) (by exact rfl)))
    · refine SB.one (ST.ret (EV.to EV.bl ?_))
      unfold isMat
      rw [hd]
      rw [h1, all_map] at z
      show O.dat (.bl false) = O.dat (.bl ((decide ((1 : Int) ≤ ds.length) && decide ((ds.length : Int) ≤ 8)) && (ds.all isVec && _)))
      rw [← Bool.and_assoc, gd3 z, Bool.false_and]
    · rw [h1, all_map] at z
      obtain ⟨z1, z2⟩ := gd4 z
      have hl := hall (q1 := ⟨0, 0, 0, 0⟩) (E := []) z1
      have hv : ∀ e ∈ ds, isVec e = true := List.all_eq_true.mp z2
      obtain ⟨e0, r0, rfl⟩ : ∃ e0 r0, ds = e0 :: r0 := by
        cases ds with
        | nil => simp at z1
        | cons e0 r0 => exact ⟨e0, r0, rfl⟩
      obtain ⟨es0, p0, q0⟩ := vec_len (hv e0 List.mem_cons_self)
      have hix : ixD d ((0 : Nat) : Int) = some e0 := by
        cases d <;> first | (cases hd; exact atI_nat rfl) | cases hd
      refine SB.one (ST.ret (EV.to (EV.all (bs := (e0 :: r0).map fun e => decide ((((lenD e).getD 0 : Nat) : Int) = ((es0.length : Nat) : Int))) ?_ W.b.all) ?_))
      · rw [List.map_map]
        refine LC.ev (LC.lM 1 (xs := e0 :: r0) (f := fun e => e) (own := [("row", 1)]) (by rfl) c_is_matrix.nd rfl (EV.nm 0) (by rw [hd, List.map_id']) (Nat.le_refl _) OkM.refl hl (fun y hy M => ?_))
        obtain ⟨es, p1, q1⟩ := vec_len (hv y hy)
        have e1 : (lenD y).getD 0 = es.length := by rw [q1]; rfl
        show EV _ _ _ _ (.dat (.bl (decide ((((lenD y).getD 0 : Nat) : Int) = ((es0.length : Nat) : Int))))) _
        rw [e1]
        exact EV.cm (EV.len (EV.nm 1) q1 W.b.len) (EV.len (EV.ix (EV.nm 0) EV.int hix) q0 W.b.len) CS.eqI
      · unfold isMat
        rw [hd, all_map]
        show _ = O.dat (.bl ((decide ((1 : Int) ≤ ((e0 :: r0).length : Nat)) && decide (((e0 :: r0).length : Int) ≤ 8)) && ((e0 :: r0).all isVec && _)))
        rw [z1, z2, Bool.true_and, Bool.true_and]
        show O.dat (.bl ((e0 :: r0).all _)) = O.dat (.bl ((e0 :: r0).all _))
        congr 3
        funext e
        rw [Bool.eq_iff_iff]
        simp [q0]
        constructor <;> intro h <;> omega
end
/-! ### the mathematics of rows -/
def wd (m : List (List Int)) : Nat := (m.headD []).length
structure Mx (m : List (List Int)) : Prop where
  l1 : 1 ≤ m.length
  l8 : m.length ≤ 8
  w1 : 1 ≤ wd m
  w8 : wd m ≤ 8
  rect : ∀ r ∈ m, r.length = wd m
  num : ∀ r ∈ m, ∀ x ∈ r, -1000000 ≤ x ∧ x ≤ 1000000
structure Vx (v : List Int) : Prop where
  l1 : 1 ≤ v.length
  l8 : v.length ≤ 8
  num : ∀ x ∈ v, -1000000 ≤ x ∧ x ≤ 1000000
def IsV (d : D) (v : List Int) : Prop := Vx v ∧ seqD d = some (v.map .int)
def IsM (d : D) (m : List (List Int)) : Prop := Mx m ∧ ∃ ds, seqD d = some ds ∧ Paired (fun e (r : List Int) => seqD e = some (r.map .int)) ds m
theorem Mx.row {m : List (List Int)} (h : Mx m) {r : List Int} (hr : r ∈ m) : Vx r := ⟨by rw [h.rect r hr]; exact h.w1, by rw [h.rect r hr]; exact h.w8, h.num r hr⟩
theorem paired_tM : ∀ m : List (List Int), Paired (fun e (r : List Int) => seqD e = some (r.map D.int)) (m.map tV) m
  | [] => .nil
  | _ :: m => .cons rfl (paired_tM m)
theorem paired_lM : ∀ m : List (List Int), Paired (fun e (r : List Int) => seqD e = some (r.map D.int)) (m.map lV) m
  | [] => .nil
  | _ :: m => .cons rfl (paired_lM m)
theorem isM_t {m : List (List Int)} (h : Mx m) : IsM (tM m) m := ⟨h, _, rfl, paired_tM m⟩
theorem isM_l {m : List (List Int)} (h : Mx m) : IsM (lM m) m := ⟨h, _, rfl, paired_lM m⟩
theorem isV_t {v : List Int} (h : Vx v) : IsV (tV v) v := ⟨h, rfl⟩
theorem isV_l {v : List Int} (h : Vx v) : IsV (lV v) v := ⟨h, rfl⟩
def dot (xs ys : List Int) : Int := ((xs.zip ys).map fun u => u.1 * u.2).sum
def flip (m : List (List Int)) : List (List Int) := (List.range (wd m)).map fun j => m.map fun r => r.getD j 0
def mulM (m n : List (List Int)) : List (List Int) := m.map fun r => (flip n).map fun c => dot r c
def ledBy (v : List Int) (m : List (List Int)) : List Int := (List.range (wd m)).map fun j => ((v.zip m).map fun u => u.1 * u.2.getD j 0).sum
def ontoM (m : List (List Int)) (v : List Int) : List Int := m.map fun r => dot r v
def unitM (n : Nat) : List (List Int) := (List.range n).map fun i => (List.range n).map fun j => if j = i then 1 else 0
def manyM (m : List (List Int)) (k : Int) : List (List Int) := m.map fun r => r.map fun x => k * x
def addM (m n : List (List Int)) : List (List Int) := (m.zip n).map fun u => (u.1.zip u.2).map fun w => w.1 + w.2
def besM (m n : List (List Int)) : List (List Int) := (m.zip n).map fun u => u.1 ++ u.2
def gcdL (v : List Int) : Int := v.foldl (fun a x => (Nat.gcd a.natAbs x.natAbs : Nat)) 0
def MulOk (a b : List (List Int)) : Prop := ∀ r ∈ a, ∀ x ∈ r, ∀ q ∈ b, ∀ y ∈ q, IntMulOk x y
theorem getD_of_lt {r : List Int} {j : Nat} (h : j < r.length) : r[j]? = some (r.getD j 0) := by
  rw [List.getD_eq_getElem?_getD, List.getElem?_eq_getElem h]
  rfl
theorem ix_tV {r : List Int} {j : Nat} (h : j < r.length) : ixD (tV r) ((j : Nat) : Int) = some (.int (r.getD j 0)) := by
  refine atI_nat ?_
  rw [List.getElem?_map, getD_of_lt h]
  rfl
theorem ix_lV {r : List Int} {j : Nat} (h : j < r.length) : ixD (lV r) ((j : Nat) : Int) = some (.int (r.getD j 0)) := by
  refine atI_nat ?_
  rw [List.getElem?_map, getD_of_lt h]
  rfl
theorem ix_tM {m : List (List Int)} {j : Nat} (h : j < m.length) : ixD (tM m) ((j : Nat) : Int) = some (tV (m.getD j [])) := by
  refine atI_nat ?_
  rw [List.getElem?_map, List.getElem?_eq_getElem h, List.getD_eq_getElem?_getD, List.getElem?_eq_getElem h]
  rfl
theorem ix_lM {m : List (List Int)} {j : Nat} (h : j < m.length) : ixD (lM m) ((j : Nat) : Int) = some (lV (m.getD j [])) := by
  refine atI_nat ?_
  rw [List.getElem?_map, List.getElem?_eq_getElem h, List.getD_eq_getElem?_getD, List.getElem?_eq_getElem h]
  rfl
theorem ix_tM0 {m : List (List Int)} (h : m ≠ []) : ixD (tM m) (0 : Int) = some (tV (m.headD [])) := by
  cases m with
  | nil => exact absurd rfl h
  | cons r q => exact ix_tM (j := 0) (by simp)
theorem len_tV {r : List Int} : lenD (tV r) = some r.length := by show some (r.map D.int).length = _; rw [List.length_map]
theorem len_tM {m : List (List Int)} : lenD (tM m) = some m.length := by show some (m.map tV).length = _; rw [List.length_map]
theorem len_lV {r : List Int} : lenD (lV r) = some r.length := by show some (r.map D.int).length = _; rw [List.length_map]
theorem len_lM {m : List (List Int)} : lenD (lM m) = some m.length := by show some (m.map lV).length = _; rw [List.length_map]
/-! ### rows -/
section
variable {g : Pg}
theorem tM_map {α : Type} {f : α → List Int} {xs : List α} : tM (xs.map f) = .tup (xs.map fun a => .tup ((f a).map D.int)) := by
  show D.tup _ = D.tup _
  rw [List.map_map]
  rfl
theorem tM_map2 {α β : Type} {f : α → β → Int} {ys : α → List β} {xs : List α} : tM (xs.map fun a => (ys a).map (f a)) = .tup (xs.map fun a => .tup ((ys a).map fun b => .int (f a b))) := by
  rw [tM_map]
  show D.tup _ = D.tup _
  congr 2
  funext a
  show D.tup _ = D.tup _
  rw [List.map_map]
  rfl
theorem tV_map {α : Type} {f : α → Int} {xs : List α} : tV (xs.map f) = .tup (xs.map fun a => .int (f a)) := by
  show D.tup _ = D.tup _
  rw [List.map_map]
  rfl
theorem ok_greatest_divisor (W : Wd g) : FN g "greatest_divisor" 1 (P2 fun d e r => ∃ i j : Int, d = .int i ∧ e = .int j ∧ r = .int (Nat.gcd i.natAbs j.natAbs : Nat)) := by
  refine FN.mk2 W.t_greatest_divisor c_greatest_divisor (fun _ _ _ _ _ _ us hl => match us, hl with | [_, _], _ => rfl) (fun d e r h => ?_)
  obtain ⟨i, j, rfl, rfl, rfl⟩ := h
  let st : Nat → Nat × Nat := fun n => Nat.rec (i.natAbs, j.natAbs) (fun _ u => (u.2, u.1 % u.2)) n
  have hst : ∀ n, st (n + 1) = ((st n).2, (st n).1 % (st n).2) := fun n => rfl
  have hg : ∀ n, (∀ k, k < n → (st k).2 ≠ 0) → Nat.gcd (st n).1 (st n).2 = Nat.gcd i.natAbs j.natAbs := fun n => by
    induction n with
    | zero => intro _; rfl
    | succ n ih =>
      intro h
      rw [← ih fun k hk => h k (Nat.lt_succ_of_lt hk), hst]
      show Nat.gcd (st n).2 ((st n).1 % (st n).2) = _
      rw [Nat.gcd_comm (st n).1, Nat.gcd_rec (st n).2 (st n).1, Nat.gcd_comm]
  have hm : ∃ m, (st m).2 = 0 ∧ ∀ k, k < m → (st k).2 ≠ 0 := by
    have key : ∀ b n, (st n).2 ≤ b → (∀ k, k < n → (st k).2 ≠ 0) → ∃ m, (st m).2 = 0 ∧ ∀ k, k < m → (st k).2 ≠ 0 := fun b => by
      induction b with
      | zero => exact fun n h h2 => ⟨n, Nat.le_zero.mp h, h2⟩
      | succ b ih =>
        intro n h h2
        by_cases hz : (st n).2 = 0
        · exact ⟨n, hz, h2⟩
        · refine ih (n + 1) ?_ fun k hk => ?_
          · rw [hst]
            have := Nat.mod_lt (st n).1 (Nat.pos_of_ne_zero hz)
            show (st n).1 % (st n).2 ≤ b
            omega
          · by_cases hkn : k = n
            · subst hkn; exact hz
            · exact h2 k (by omega)
    exact key _ 0 (Nat.le_refl _) fun k hk => absurd hk (Nat.not_lt_zero k)
  obtain ⟨m, h0, hlt⟩ := hm
  have hr : (st m).1 = Nat.gcd i.natAbs j.natAbs := by
    have := hg m hlt
    rw [h0, Nat.gcd_zero_right] at this
    exact this
  refine SB.cons (ST.set 0 (EV.abs (EV.nm 0) W.b.abs) c_greatest_divisor.nd) (SB.cons (ST.set 1 (EV.abs (EV.nm 1) W.b.abs) c_greatest_divisor.nd) (SB.cons
    (ST.while (E_ := fun n => [.dat (.int ((st n).1 : Nat)), .dat (.int ((st n).2 : Nat)), .no]) (M_ := fun _ => []) (m := m) Fg.refl rfl (fun n hn => ?_) ?_) (SB.one (ST.ret (EV.to (EV.nm 0) ?_)))))
  · have hpos : (0 : Int) < ((st n).2 : Nat) := by
      have := hlt n hn
      omega
    refine ⟨_, [.dat (.int ((st (n + 1)).1 : Nat)), .dat (.int ((st (n + 1)).2 : Nat)), .dat (.int ((st (n + 1)).2 : Nat))], ET.to (ET.cm (EV.nm 1) EV.int CS.gtI) (decide_eq_true hpos), Fg.cons (Fg.cons (Fg.no Fg.nil)), ?_⟩
    refine SB.to (SB.cons (ST.set 2 (EV.mod (EV.nm 0) (EV.nm 1) hpos) c_greatest_divisor.nd) (SB.cons (ST.set 0 (EV.nm 1) c_greatest_divisor.nd) (SB.cons (ST.set 1 (EV.nm 2) c_greatest_divisor.nd) SB.nil))) ?_
    have e : (((st n).1 : Nat) : Int) % ((st n).2 : Nat) = ((st (n + 1)).2 : Nat) := by
      rw [hst]
      exact (Int.natCast_emod _ _).symm
    show Out.nx [.dat (.int ((st n).2 : Nat)), .dat (.int (((st n).1 : Nat) % ((st n).2 : Nat))), .dat (.int (((st n).1 : Nat) % ((st n).2 : Nat)))] [] = _
    rw [e]
  · refine ET.to (ET.cm (EV.nm 1) EV.int CS.gtI) (decide_eq_false ?_)
    rw [h0]
    decide
  · rw [hr]
theorem ok_divisor_of (W : Wd g) : FN g "divisor_of" 2 (P1 fun d r => ∃ v : List Int, d = tV v ∧ r = .int (gcdL v)) := by
  refine FN.mk1 W.t_divisor_of c_divisor_of (fun _ _ _ _ _ _ us hl => match us, hl with | [_], _ => rfl) (fun d r h => ?_)
  obtain ⟨v, rfl, rfl⟩ := h
  have hlen : (v.map D.int).length = v.length := List.length_map _
  refine SB.cons (ST.set 1 EV.int c_divisor_of.nd) (SB.cons (ST.forN 2 (E_ := fun n => [.dat (tV v), .dat (.int (gcdL (v.take n))), .no]) (M_ := fun _ => []) (EI.tup (EV.nm 0)) Fg.refl rfl (fun _ _ => True.intro) c_divisor_of.nd (fun n hn => ?_)) (SB.one (ST.ret (EV.to (EV.nm 1) ?_))))
  · rw [hlen] at hn
    refine ⟨[.dat (tV v), .dat (.int (gcdL (v.take (n + 1)))), .dat (.int v[n])], Fg.cons (Fg.cons (Fg.no Fg.nil)), ?_⟩
    rw [atO_map hn]
    have e : gcdL (v.take (n + 1)) = (Nat.gcd (gcdL (v.take n)).natAbs (v[n]).natAbs : Nat) := by
      unfold gcdL
      rw [List.take_succ_eq_append_getElem hn, List.foldl_append]
      rfl
    rw [e]
    exact SB.one (ST.set 1 (EV.c2 (ok_greatest_divisor W) (EV.nm 1) (EV.nm 2) ⟨_, _, rfl, rfl, rfl⟩) c_divisor_of.nd)
  · rw [hlen, List.take_length]
def F_times (d e r : D) : Prop := ∃ xs ys : List Int, ((d = tV xs ∧ e = tV ys) ∨ (d = lV xs ∧ e = lV ys)) ∧ xs.length < 100000 ∧ (∀ x ∈ xs, ∀ y ∈ ys, IntMulOk x y) ∧ r = .int (dot xs ys)
theorem ok_times (W : Wd g) : FN g "times" 1 (P2 F_times) := by
  refine FN.mk2 W.t_times c_times (fun _ _ _ _ _ _ us hl => match us, hl with | [_, _], _ => rfl) (fun d e r h => ?_)
  obtain ⟨xs, ys, hd, hl, ok, rfl⟩ := h
  refine SB.one (ST.ret (EV.sum (ns := (xs.zip ys).map fun u => u.1 * u.2) ?_ W.b.sum))
  rw [List.map_map]
  exact LC.ev (LC.lZ 2 3 (g := fun x y => .int (x * y)) (own := [("left", 2), ("right", 3)]) (by rfl) c_times.nd rfl (EV.nm 0) (EV.nm 1) hd W.b.zip (Nat.le_refl _) OkM.refl hl (fun u hu v hv M => EV.mul (EV.nm 2) (EV.nm 3) (ok u hu v hv)))
theorem ok_flipped (W : Wd g) : FN g "flipped" 1 (P1 fun d r => ∃ m, d = tM m ∧ m ≠ [] ∧ (∀ q ∈ m, q.length = wd m) ∧ m.length < 100000 ∧ wd m < 100000 ∧ r = tM (flip m)) := by
  refine FN.mk1 W.t_flipped c_flipped (fun _ _ _ _ _ _ us hl => match us, hl with | [_], _ => rfl) (fun d r h => ?_)
  obtain ⟨m, rfl, h0, hr, hl, hw, rfl⟩ := h
  have e : tM (flip m) = .tup ((List.range (wd m)).map fun j => .tup (m.map fun q => .int (q.getD j 0))) := by
    unfold flip
    exact tM_map2
  rw [e]
  refine SB.one (ST.ret (EV.tuple (LC.ev (LC.lR 1 (j := ((wd m : Nat) : Int)) (g := fun j => .tup (m.map fun q => .int (q.getD j 0))) (own := [("at", 1)]) (by rfl) c_flipped.nd rfl (EV.len (EV.ix (EV.nm 0) EV.int (ix_tM0 h0)) len_tV W.b.len) W.b.range (Nat.le_refl _) OkM.refl (by omega) (fun i hi M => ?_))) rfl W.b.tuple))
  exact EV.tuple (LC.ev (LC.lM 2 (xs := m) (f := tV) (g := fun q => .int (q.getD i 0)) (own := [("row", 2)]) (by rfl) c_flipped.nd rfl (EV.nm 0) rfl (Nat.le_refl _) OkM.refl hl (fun q hq M => EV.ix (EV.nm 2) (EV.nm 1) (ix_tV (by rw [hr q hq]; omega))))) rfl W.b.tuple
theorem flip_len {m : List (List Int)} {c : List Int} (h : c ∈ flip m) : c.length = m.length := by
  unfold flip at h
  obtain ⟨j, _, rfl⟩ := List.mem_map.mp h
  exact List.length_map _
theorem flip_mem {m : List (List Int)} {c : List Int} (hr : ∀ q ∈ m, q.length = wd m) (h : c ∈ flip m) {y : Int} (hy : y ∈ c) : ∃ q ∈ m, y ∈ q := by
  unfold flip at h
  obtain ⟨j, hj, rfl⟩ := List.mem_map.mp h
  obtain ⟨q, hq, rfl⟩ := List.mem_map.mp hy
  have hlt : j < q.length := by rw [hr q hq]; exact List.mem_range.mp hj
  exact ⟨q, hq, List.mem_of_getElem? (getD_of_lt hlt)⟩
theorem flip_length {m : List (List Int)} : (flip m).length = wd m := by unfold flip; rw [List.length_map, List.length_range]
def F_multiplied (d e r : D) : Prop := ∃ m n, d = tM m ∧ e = tM n ∧ n ≠ [] ∧ (∀ q ∈ n, q.length = wd n) ∧ m.length < 100000 ∧ n.length < 100000 ∧ wd n < 100000 ∧ (∀ q ∈ m, q.length < 100000) ∧ MulOk m n ∧ r = tM (mulM m n)
theorem ok_multiplied (W : Wd g) : FN g "multiplied" 2 (P2 F_multiplied) := by
  refine FN.mk2 W.t_multiplied c_multiplied (fun _ _ _ _ _ _ us hl => match us, hl with | [_, _], _ => rfl) (fun d e r h => ?_)
  obtain ⟨m, n, rfl, rfl, h0, hr, l1, l2, l3, l4, ok, rfl⟩ := h
  have e : tM (mulM m n) = .tup (m.map fun q => .tup ((flip n).map fun c => .int (dot q c))) := by
    unfold mulM
    exact tM_map2 (ys := fun _ => flip n)
  rw [e]
  refine SB.cons (ST.set 2 (EV.c1 (ok_flipped W) (EV.nm 1) ⟨n, rfl, h0, hr, l2, l3, rfl⟩) c_multiplied.nd) (SB.one (ST.ret (EV.tuple (LC.ev (LC.lM 3 (xs := m) (f := tV) (g := fun q => .tup ((flip n).map fun c => .int (dot q c))) (own := [("row", 3)]) (by rfl) c_multiplied.nd rfl (EV.nm 0) rfl (Nat.le_refl _) OkM.refl l1 (fun q hq M => ?_))) rfl W.b.tuple)))
  exact EV.tuple (LC.ev (LC.lM 4 (xs := flip n) (f := tV) (g := fun c => .int (dot q c)) (own := [("column", 4)]) (by rfl) c_multiplied.nd rfl (EV.nm 2) rfl (Nat.le_refl _) OkM.refl (by rw [flip_length]; exact l3) (fun c hc M => EV.c2 (ok_times W) (EV.nm 3) (EV.nm 4) ⟨q, c, .inl ⟨rfl, rfl⟩, l4 q hq, fun x hx y hy => by
    obtain ⟨s, hs, hy'⟩ := flip_mem hr hc hy
    exact ok q hq x hx s hs y hy', rfl⟩))) rfl W.b.tuple
theorem ok_led_by (W : Wd g) : FN g "led_by" 1 (P2 fun d e r => ∃ v m, d = tV v ∧ e = tM m ∧ m ≠ [] ∧ (∀ q ∈ m, q.length = wd m) ∧ v.length < 100000 ∧ wd m < 100000 ∧ MulOk [v] m ∧ r = tV (ledBy v m)) := by
  refine FN.mk2 W.t_led_by c_led_by (fun _ _ _ _ _ _ us hl => match us, hl with | [_, _], _ => rfl) (fun d e r h => ?_)
  obtain ⟨v, m, rfl, rfl, h0, hr, l1, l2, ok, rfl⟩ := h
  have e : tV (ledBy v m) = .tup ((List.range (wd m)).map fun j => .int ((v.zip m).map fun u => u.1 * u.2.getD j 0).sum) := by
    unfold ledBy
    exact tV_map
  rw [e]
  refine SB.one (ST.ret (EV.tuple (LC.ev (LC.lR 2 (j := ((wd m : Nat) : Int)) (g := fun j => .int ((v.zip m).map fun u => u.1 * u.2.getD j 0).sum) (own := [("at", 2)]) (by rfl) c_led_by.nd rfl (EV.len (EV.ix (EV.nm 1) EV.int (ix_tM0 h0)) len_tV W.b.len) W.b.range (Nat.le_refl _) OkM.refl (by omega) (fun i hi M => ?_))) rfl W.b.tuple))
  show EV _ _ _ _ (.dat (.int ((v.zip m).map fun u => u.1 * u.2.getD i 0).sum)) _
  refine EV.sum ?_ W.b.sum
  rw [List.map_map]
  exact LC.ev (LC.lZ 3 4 (f1 := D.int) (f2 := tV) (g := fun x q => .int (x * q.getD i 0)) (own := [("one", 3), ("row", 4)]) (by rfl) c_led_by.nd rfl (EV.nm 0) (EV.nm 1) (.inl ⟨rfl, rfl⟩) W.b.zip (Nat.le_refl _) OkM.refl l1 (fun x hx q hq M => by
    have hlt : i < q.length := by rw [hr q hq]; omega
    exact EV.mul (EV.nm 3) (EV.ix (EV.nm 4) (EV.nm 2) (ix_tV hlt)) (ok v List.mem_cons_self x hx q hq _ (List.mem_of_getElem? (getD_of_lt hlt)))))
theorem ok_onto (W : Wd g) : FN g "onto" 2 (P2 fun d e r => ∃ m v, d = tM m ∧ e = tV v ∧ m.length < 100000 ∧ (∀ q ∈ m, q.length < 100000) ∧ MulOk m [v] ∧ r = tV (ontoM m v)) := by
  refine FN.mk2 W.t_onto c_onto (fun _ _ _ _ _ _ us hl => match us, hl with | [_, _], _ => rfl) (fun d e r h => ?_)
  obtain ⟨m, v, rfl, rfl, l1, l2, ok, rfl⟩ := h
  have e : tV (ontoM m v) = .tup (m.map fun q => .int (dot q v)) := by
    unfold ontoM
    exact tV_map
  rw [e]
  exact SB.one (ST.ret (EV.tuple (LC.ev (LC.lM 2 (xs := m) (f := tV) (g := fun q => .int (dot q v)) (own := [("row", 2)]) (by rfl) c_onto.nd rfl (EV.nm 0) rfl (Nat.le_refl _) OkM.refl l1 (fun q hq M => EV.c2 (ok_times W) (EV.nm 2) (EV.nm 1) ⟨q, v, .inl ⟨rfl, rfl⟩, l2 q hq, fun x hx y hy => ok q hq x hx v List.mem_cons_self y hy, rfl⟩))) rfl W.b.tuple))
theorem ok_unit (W : Wd g) : FN g "unit" 1 (P1 fun d r => ∃ n : Nat, n < 100000 ∧ d = .int (n : Int) ∧ r = tM (unitM n)) := by
  refine FN.mk1 W.t_unit c_unit (fun _ _ _ _ _ _ us hl => match us, hl with | [_], _ => rfl) (fun d r h => ?_)
  obtain ⟨n, hn, rfl, rfl⟩ := h
  have e : tM (unitM n) = .tup ((List.range n).map fun i => .tup ((List.range n).map fun j => .int (if decide (((j : Nat) : Int) = ((i : Nat) : Int)) then 1 else 0))) := by
    unfold unitM
    simp only [tM, tV, List.map_map]
    congr 2
    funext i
    show D.tup _ = D.tup _
    rw [List.map_map]
    congr 2
    funext j
    show D.int _ = D.int _
    congr 1
    show (if j = i then (1 : Int) else 0) = _
    by_cases h : j = i
    · subst h; simp
    · rw [if_neg h, if_neg]; simp; omega
  rw [e]
  refine SB.one (ST.ret (EV.tuple (LC.ev (LC.lR 1 (j := ((n : Nat) : Int)) (g := fun i => .tup ((List.range n).map fun j => .int (if decide (((j : Nat) : Int) = ((i : Nat) : Int)) then 1 else 0))) (own := [("row", 1)]) (by rfl) c_unit.nd rfl (EV.nm 0) W.b.range (Nat.le_refl _) OkM.refl (by omega) (fun i hi M => ?_))) rfl W.b.tuple))
  exact EV.tuple (LC.ev (LC.lR 2 (j := ((n : Nat) : Int)) (g := fun j => .int (if decide (((j : Nat) : Int) = ((i : Nat) : Int)) then 1 else 0)) (own := [("at", 2)]) (by rfl) c_unit.nd rfl (EV.nm 0) W.b.range (Nat.le_refl _) OkM.refl (by omega) (fun j hj M => EV.intB (EV.cm (EV.nm 2) (EV.nm 1) CS.eqI) W.b.int))) rfl W.b.tuple
theorem ok_many_times (W : Wd g) : FN g "many_times" 1 (P2 fun d e r => ∃ m k, d = tM m ∧ e = .int k ∧ m.length < 100000 ∧ (∀ q ∈ m, q.length < 100000) ∧ (∀ q ∈ m, ∀ x ∈ q, IntMulOk k x) ∧ r = tM (manyM m k)) := by
  refine FN.mk2 W.t_many_times c_many_times (fun _ _ _ _ _ _ us hl => match us, hl with | [_, _], _ => rfl) (fun d e r h => ?_)
  obtain ⟨m, k, rfl, rfl, l1, l2, ok, rfl⟩ := h
  have e : tM (manyM m k) = .tup (m.map fun q => .tup (q.map fun x => .int (k * x))) := by
    unfold manyM
    exact tM_map2
  rw [e]
  exact SB.one (ST.ret (EV.tuple (LC.ev (LC.lM 2 (xs := m) (f := tV) (g := fun q => .tup (q.map fun x => .int (k * x))) (own := [("row", 2)]) (by rfl) c_many_times.nd rfl (EV.nm 0) rfl (Nat.le_refl _) OkM.refl l1 (fun q hq M =>
    EV.tuple (LC.ev (LC.lM 3 (xs := q) (f := D.int) (g := fun x => .int (k * x)) (own := [("one", 3)]) (by rfl) c_many_times.nd rfl (EV.nm 2) rfl (Nat.le_refl _) OkM.refl (l2 q hq) (fun x hx M => EV.mul (EV.nm 1) (EV.nm 3) (ok q hq x hx)))) rfl W.b.tuple))) rfl W.b.tuple))
theorem ok_added (W : Wd g) : FN g "added" 1 (P2 fun d e r => ∃ m n, d = tM m ∧ e = tM n ∧ m.length < 100000 ∧ (∀ q ∈ m, q.length < 100000) ∧ r = tM (addM m n)) := by
  refine FN.mk2 W.t_added c_added (fun _ _ _ _ _ _ us hl => match us, hl with | [_, _], _ => rfl) (fun d e r h => ?_)
  obtain ⟨m, n, rfl, rfl, l1, l2, rfl⟩ := h
  have e : tM (addM m n) = .tup ((m.zip n).map fun u => .tup ((u.1.zip u.2).map fun w => .int (w.1 + w.2))) := by
    unfold addM
    exact tM_map2
  rw [e]
  exact SB.one (ST.ret (EV.tuple (LC.ev (LC.lZ 2 3 (f1 := tV) (f2 := tV) (g := fun q s => .tup ((q.zip s).map fun w => .int (w.1 + w.2))) (own := [("row", 2), ("its", 3)]) (by rfl) c_added.nd rfl (EV.nm 0) (EV.nm 1) (.inl ⟨rfl, rfl⟩) W.b.zip (Nat.le_refl _) OkM.refl l1 (fun q hq s hs M =>
    EV.tuple (LC.ev (LC.lZ 4 5 (f1 := D.int) (f2 := D.int) (g := fun x y => .int (x + y)) (own := [("one", 4), ("other", 5)]) (by rfl) c_added.nd rfl (EV.nm 2) (EV.nm 3) (.inl ⟨rfl, rfl⟩) W.b.zip (Nat.le_refl _) OkM.refl (l2 q hq) (fun x hx y hy M => EV.add (EV.nm 4) (EV.nm 5)))) rfl W.b.tuple))) rfl W.b.tuple))
end
/-! ### what is checked -/
section
variable {g : Pg}
theorem isFT_of {x : Int} (h : -1000000 ≤ x ∧ x ≤ 1000000) : isFT (.int x) (-1000000) 1000000 = true := by
  show (decide _ && decide _) = true
  rw [decide_eq_true h.1, decide_eq_true h.2]
  rfl
theorem len_ok {n : Nat} (h1 : 1 ≤ n) (h8 : n ≤ 8) : (decide ((1 : Int) ≤ n) && decide ((n : Int) ≤ 8)) = true := by
  rw [decide_eq_true (by omega), decide_eq_true (by omega)]
  rfl
theorem isVec_of {d : D} {v : List Int} (h : IsV d v) : isVec d = true := by
  unfold isVec
  rw [h.2]
  show ((decide ((1 : Int) ≤ (v.map D.int).length) && decide (((v.map D.int).length : Int) ≤ 8)) && (v.map D.int).all _) = true
  rw [List.length_map, len_ok h.1.l1 h.1.l8, Bool.true_and, List.all_map, List.all_eq_true]
  exact fun x hx => isFT_of (h.1.num x hx)
theorem paired_mem {α β : Type} {R : α → β → Prop} : ∀ {xs : List α} {ys : List β}, Paired R xs ys → ∀ x ∈ xs, ∃ y ∈ ys, R x y
  | _, _, .nil, x, hx => by simp at hx
  | _, _, .cons h r, x, hx => by
    rcases List.mem_cons.mp hx with rfl | hx
    · exact ⟨_, List.mem_cons_self, h⟩
    · obtain ⟨y, h1, h2⟩ := paired_mem r x hx
      exact ⟨y, List.mem_cons_of_mem _ h1, h2⟩
theorem len_seq {d : D} {ds : List D} (h : seqD d = some ds) : lenD d = some ds.length := (seq_of h).2
theorem isMat_of {d : D} {m : List (List Int)} (h : IsM d m) : isMat d = true := by
  obtain ⟨hm, ds, hd, hp⟩ := h
  have hl : ds.length = m.length := hp.length
  have e1 : ds.all isVec = true := List.all_eq_true.mpr fun e he => by
    obtain ⟨r, hr, hs⟩ := paired_mem hp e he
    exact isVec_of ⟨hm.row hr, hs⟩
  have hlen : ∀ e ∈ ds, (lenD e).getD 0 = wd m := fun e he => by
    obtain ⟨r, hr, hs⟩ := paired_mem hp e he
    rw [len_seq hs, List.length_map, hm.rect r hr]
    rfl
  unfold isMat
  rw [hd]
  show ((decide ((1 : Int) ≤ ds.length) && decide ((ds.length : Int) ≤ 8)) && (ds.all isVec && ds.all _)) = true
  rw [hl, len_ok hm.l1 hm.l8, e1, Bool.true_and, Bool.true_and, List.all_eq_true]
  intro e he
  have h0 : (lenD (ds.headD .non)).getD 0 = wd m := by
    cases ds with
    | nil => simp at he
    | cons e0 r0 => exact hlen e0 List.mem_cons_self
  rw [hlen e he, h0]
  exact decide_eq_true rfl
def tupD (e : D) : D := .tup ((seqD e).getD [])
theorem paired_tup : ∀ {ds : List D} {m : List (List Int)}, Paired (fun e (r : List Int) => seqD e = some (r.map D.int)) ds m → ds.map tupD = m.map tV
  | _, _, .nil => rfl
  | _, _, .cons h r => by
    rw [List.map_cons, List.map_cons, paired_tup r]
    show D.tup _ :: _ = _
    rw [h]
    rfl
theorem Mx.ne {m : List (List Int)} (h : Mx m) : m ≠ [] := fun e => by
  have := h.l1
  rw [e] at this
  exact absurd this (by decide)
theorem ok_check_number (W : Wd g) : FN g "check_number" 3 (P3 fun d e f r => ∃ l m, e = .int l ∧ f = .int m ∧ isFT d l m = true ∧ r = .non) := by
  refine FN.mkN3 W.t_check_number c_check_number (fun _ _ _ _ _ _ us hl => match us, hl with | [_, _, _], _ => rfl) (fun d e f r h => ?_)
  obtain ⟨l, m, rfl, rfl, hT, rfl⟩ := h
  exact ⟨rfl, _, SB.one (ST.no (ET.to (ET.not (ET.val (EV.c3 (ok_is_from_to W) (EV.nm 0) (EV.nm 1) (EV.nm 2) ⟨l, m, rfl, rfl, rfl⟩))) (by rw [hT]; rfl)) SB.nil)⟩
theorem ok_checked_vector (W : Wd g) : FN g "checked_vector" 4 (P1 fun d r => ∃ v, IsV d v ∧ r = tV v) := by
  refine FN.mk1 W.t_checked_vector c_checked_vector (fun _ _ _ _ _ _ us hl => match us, hl with | [_], _ => rfl) (fun d r h => ?_)
  obtain ⟨v, hv, rfl⟩ := h
  exact SB.cons (ST.no (ET.to (ET.not (ET.val (EV.c1 (ok_is_vector W) (EV.nm 0) (by exact rfl)))) (by rw [isVec_of hv]; rfl)) SB.nil) (SB.one (ST.ret (EV.tuple (EV.nm 0) hv.2 W.b.tuple)))
theorem ok_checked_matrix (W : Wd g) : FN g "checked_matrix" 5 (P1 fun d r => ∃ m, IsM d m ∧ r = tM m) := by
  refine FN.mk1 W.t_checked_matrix c_checked_matrix (fun _ _ _ _ _ _ us hl => match us, hl with | [_], _ => rfl) (fun d r h => ?_)
  obtain ⟨m, hm, rfl⟩ := h
  have hM := isMat_of hm
  obtain ⟨hx, ds, hd, hp⟩ := hm
  have hl : ds.length < 100000 := by
    have := hx.l8
    rw [hp.length]
    omega
  have e : tM m = .tup (ds.map tupD) := by rw [paired_tup hp]
  rw [e]
  refine SB.cons (ST.no (ET.to (ET.not (ET.val (EV.c1 (ok_is_matrix W) (EV.nm 0) (by exact rfl)))) (by rw [hM]; rfl)) SB.nil) (SB.one (ST.ret (EV.tuple (LC.ev (LC.lM 1 (xs := ds) (f := fun e => e) (g := tupD) (own := [("row", 1)]) (by rfl) c_checked_matrix.nd rfl (EV.nm 0) (by rw [hd, List.map_id']) (Nat.le_refl _) OkM.refl hl (fun y hy M => ?_))) rfl W.b.tuple)))
  obtain ⟨r, _, hr⟩ := paired_mem hp y hy
  have e2 : tupD y = .tup (r.map D.int) := by
    show D.tup _ = _
    rw [hr]
    rfl
  show EV _ _ _ _ (.dat (tupD y)) _
  rw [e2]
  exact EV.tuple (EV.nm 1) hr W.b.tuple
theorem ok_check_sizes (W : Wd g) : FN g "check_sizes" 1 (P1 fun d r => d = .bl true ∧ r = .non) := by
  refine FN.mkN1 W.t_check_sizes c_check_sizes (fun _ _ _ _ _ _ us hl => match us, hl with | [_], _ => rfl) (fun d r h => ?_)
  obtain ⟨rfl, rfl⟩ := h
  exact ⟨rfl, _, SB.one (ST.no (ET.to (ET.not (ET.val (EV.nm 0))) rfl) SB.nil)⟩
theorem ok_checked_pair (W : Wd g) : FN g "checked_pair" 6 (P2 fun d e r => ∃ m n, IsM d m ∧ IsM e n ∧ wd m = wd n ∧ r = .tup [tM m, tM n]) := by
  refine FN.mk2 W.t_checked_pair c_checked_pair (fun _ _ _ _ _ _ us hl => match us, hl with | [_, _], _ => rfl) (fun d e r h => ?_)
  obtain ⟨m, n, hm, hn, hw, rfl⟩ := h
  refine SB.cons (ST.set 2 (EV.c1 (ok_checked_matrix W) (EV.nm 0) ⟨m, hm, rfl⟩) c_checked_pair.nd) (SB.cons (ST.set 3 (EV.c1 (ok_checked_matrix W) (EV.nm 1) ⟨n, hn, rfl⟩) c_checked_pair.nd) (SB.cons
    (ST.exp (EV.c1 (ok_check_sizes W) (EV.cm (EV.len (EV.ix (EV.nm 2) EV.int (ix_tM0 hm.1.ne)) len_tV W.b.len) (EV.len (EV.ix (EV.nm 3) EV.int (ix_tM0 hn.1.ne)) len_tV W.b.len) CS.eqI) ⟨?_, rfl⟩)) (SB.one (ST.ret (EV.tup (ds := [tM m, tM n]) (EA.cons (EV.nm 2) (EA.cons (EV.nm 3) EA.nil)) (by show 2 ≤ 100000; decide))))))
  exact congrArg D.bl (decide_eq_true (congrArg Int.ofNat hw))
theorem ok_checked_with (W : Wd g) : FN g "checked_with" 6 (P2 fun d e r => ∃ m v, IsM d m ∧ IsV e v ∧ wd m = v.length ∧ r = .tup [tM m, tV v]) := by
  refine FN.mk2 W.t_checked_with c_checked_with (fun _ _ _ _ _ _ us hl => match us, hl with | [_, _], _ => rfl) (fun d e r h => ?_)
  obtain ⟨m, n, hm, hn, hw, rfl⟩ := h
  refine SB.cons (ST.set 2 (EV.c1 (ok_checked_matrix W) (EV.nm 0) ⟨m, hm, rfl⟩) c_checked_with.nd) (SB.cons (ST.set 3 (EV.c1 (ok_checked_vector W) (EV.nm 1) ⟨n, hn, rfl⟩) c_checked_with.nd) (SB.cons
    (ST.exp (EV.c1 (ok_check_sizes W) (EV.cm (EV.len (EV.ix (EV.nm 2) EV.int (ix_tM0 hm.1.ne)) len_tV W.b.len) (EV.len (EV.nm 3) len_tV W.b.len) CS.eqI) ⟨?_, rfl⟩)) (SB.one (ST.ret (EV.tup (ds := [tM m, tV n]) (EA.cons (EV.nm 2) (EA.cons (EV.nm 3) EA.nil)) (by show 2 ≤ 100000; decide))))))
  exact congrArg D.bl (decide_eq_true (congrArg Int.ofNat hw))
/-! ### matrices -/
theorem Mx.sm {m : List (List Int)} (h : Mx m) : m.length < 100000 ∧ wd m < 100000 ∧ ∀ q ∈ m, q.length < 100000 := by
  have := h.l8
  have := h.w8
  exact ⟨by omega, by omega, fun q hq => by rw [h.rect q hq]; omega⟩
theorem num_ok {x y : Int} (h : -1000000 ≤ x ∧ x ≤ 1000000) : IntMulOk x y := mul_okL (by omega)
theorem Mx.mok {m n : List (List Int)} (h : Mx m) : MulOk m n := fun r hr x hx q _ y _ => num_ok (h.num r hr x hx)
theorem ok_product (W : Wd g) : FN g "product" 6 (P2 fun d e r => ∃ m n, IsM d m ∧ IsM e n ∧ wd m = n.length ∧ r = tM (mulM m n)) := by
  refine FN.mk2 W.t_product c_product (fun _ _ _ _ _ _ us hl => match us, hl with | [_, _], _ => rfl) (fun d e r h => ?_)
  obtain ⟨m, n, hm, hn, hw, rfl⟩ := h
  refine SB.cons (ST.set 2 (EV.c1 (ok_checked_matrix W) (EV.nm 0) ⟨m, hm, rfl⟩) c_product.nd) (SB.cons (ST.set 3 (EV.c1 (ok_checked_matrix W) (EV.nm 1) ⟨n, hn, rfl⟩) c_product.nd) (SB.cons
    (ST.exp (EV.c1 (ok_check_sizes W) (EV.cm (EV.len (EV.ix (EV.nm 2) EV.int (ix_tM0 hm.1.ne)) len_tV W.b.len) (EV.len (EV.nm 3) len_tM W.b.len) CS.eqI) ⟨?_, rfl⟩)) (SB.one (ST.ret (EV.c2 (ok_multiplied W) (EV.nm 2) (EV.nm 3) ⟨m, n, rfl, rfl, hn.1.ne, hn.1.rect, hm.1.sm.1, hn.1.sm.1, hn.1.sm.2.1, hm.1.sm.2.2, hm.1.mok, rfl⟩)))))
  exact congrArg D.bl (decide_eq_true (congrArg Int.ofNat hw))
theorem ok_row_times (W : Wd g) : FN g "row_times" 6 (P2 fun d e r => ∃ v m, IsV d v ∧ IsM e m ∧ v.length = m.length ∧ r = tV (ledBy v m)) := by
  refine FN.mk2 W.t_row_times c_row_times (fun _ _ _ _ _ _ us hl => match us, hl with | [_, _], _ => rfl) (fun d e r h => ?_)
  obtain ⟨v, m, hv, hm, hw, rfl⟩ := h
  refine SB.cons (ST.set 2 (EV.c1 (ok_checked_vector W) (EV.nm 0) ⟨v, hv, rfl⟩) c_row_times.nd) (SB.cons (ST.set 3 (EV.c1 (ok_checked_matrix W) (EV.nm 1) ⟨m, hm, rfl⟩) c_row_times.nd) (SB.cons
    (ST.exp (EV.c1 (ok_check_sizes W) (EV.cm (EV.len (EV.nm 2) len_tV W.b.len) (EV.len (EV.nm 3) len_tM W.b.len) CS.eqI) ⟨?_, rfl⟩)) (SB.one (ST.ret (EV.c2 (ok_led_by W) (EV.nm 2) (EV.nm 3) ⟨v, m, rfl, rfl, hm.1.ne, hm.1.rect, ?_, hm.1.sm.2.1, ?_, rfl⟩)))))
  · exact congrArg D.bl (decide_eq_true (congrArg Int.ofNat hw))
  · have := hv.1.l8
    omega
  · exact fun r hr x hx q _ y _ => by
      rw [List.mem_singleton.mp hr] at hx
      exact num_ok (hv.1.num x hx)
theorem ok_times_column (W : Wd g) : FN g "times_column" 7 (P2 fun d e r => ∃ m v, IsM d m ∧ IsV e v ∧ wd m = v.length ∧ r = tV (ontoM m v)) := by
  refine FN.mk2 W.t_times_column c_times_column (fun _ _ _ _ _ _ us hl => match us, hl with | [_, _], _ => rfl) (fun d e r h => ?_)
  obtain ⟨m, v, hm, hv, hw, rfl⟩ := h
  exact SB.cons (ST.asg (EV.c2 (ok_checked_with W) (EV.nm 0) (EV.nm 1) ⟨m, v, hm, hv, hw, rfl⟩) (EG.tup (EGs.cons (EG.nm 2 c_times_column.nd) (EGs.cons (EG.nm 3 c_times_column.nd) EGs.nil))))
    (SB.one (ST.ret (EV.c2 (ok_onto W) (EV.nm 2) (EV.nm 3) ⟨m, v, rfl, rfl, hm.1.sm.1, hm.1.sm.2.2, hm.1.mok, rfl⟩)))
theorem ok_transposed (W : Wd g) : FN g "transposed" 6 (P1 fun d r => ∃ m, IsM d m ∧ r = tM (flip m)) := by
  refine FN.mk1 W.t_transposed c_transposed (fun _ _ _ _ _ _ us hl => match us, hl with | [_], _ => rfl) (fun d r h => ?_)
  obtain ⟨m, hm, rfl⟩ := h
  exact SB.one (ST.ret (EV.c1 (ok_flipped W) (EV.c1 (ok_checked_matrix W) (EV.nm 0) ⟨m, hm, rfl⟩) ⟨m, rfl, hm.1.ne, hm.1.rect, hm.1.sm.1, hm.1.sm.2.1, rfl⟩))
theorem ok_alike_in_size (W : Wd g) : FN g "alike_in_size" 7 (P2 fun d e r => ∃ m n, IsM d m ∧ IsM e n ∧ wd m = wd n ∧ m.length = n.length ∧ r = .tup [tM m, tM n]) := by
  refine FN.mk2 W.t_alike_in_size c_alike_in_size (fun _ _ _ _ _ _ us hl => match us, hl with | [_, _], _ => rfl) (fun d e r h => ?_)
  obtain ⟨m, n, hm, hn, hw, hl, rfl⟩ := h
  refine SB.cons (ST.asg (EV.c2 (ok_checked_pair W) (EV.nm 0) (EV.nm 1) ⟨m, n, hm, hn, hw, rfl⟩) (EG.tup (EGs.cons (EG.nm 2 c_alike_in_size.nd) (EGs.cons (EG.nm 3 c_alike_in_size.nd) EGs.nil)))) (SB.cons
    (ST.exp (EV.c1 (ok_check_sizes W) (EV.cm (EV.len (EV.nm 2) len_tM W.b.len) (EV.len (EV.nm 3) len_tM W.b.len) CS.eqI) ⟨?_, rfl⟩)) (SB.one (ST.ret (EV.tup (ds := [tM m, tM n]) (EA.cons (EV.nm 2) (EA.cons (EV.nm 3) EA.nil)) (by show 2 ≤ 100000; decide)))))
  exact congrArg D.bl (decide_eq_true (congrArg Int.ofNat hl))
theorem ok_plus (W : Wd g) : FN g "plus" 8 (P2 fun d e r => ∃ m n, IsM d m ∧ IsM e n ∧ wd m = wd n ∧ m.length = n.length ∧ r = tM (addM m n)) := by
  refine FN.mk2 W.t_plus c_plus (fun _ _ _ _ _ _ us hl => match us, hl with | [_, _], _ => rfl) (fun d e r h => ?_)
  obtain ⟨m, n, hm, hn, hw, hl, rfl⟩ := h
  exact SB.cons (ST.asg (EV.c2 (ok_alike_in_size W) (EV.nm 0) (EV.nm 1) ⟨m, n, hm, hn, hw, hl, rfl⟩) (EG.tup (EGs.cons (EG.nm 2 c_plus.nd) (EGs.cons (EG.nm 3 c_plus.nd) EGs.nil))))
    (SB.one (ST.ret (EV.c2 (ok_added W) (EV.nm 2) (EV.nm 3) ⟨m, n, rfl, rfl, hm.1.sm.1, hm.1.sm.2.2, rfl⟩)))
theorem ok_minus (W : Wd g) : FN g "minus" 8 (P2 fun d e r => ∃ m n, IsM d m ∧ IsM e n ∧ wd m = wd n ∧ m.length = n.length ∧ r = tM (addM m (manyM n (-1)))) := by
  refine FN.mk2 W.t_minus c_minus (fun _ _ _ _ _ _ us hl => match us, hl with | [_, _], _ => rfl) (fun d e r h => ?_)
  obtain ⟨m, n, hm, hn, hw, hl, rfl⟩ := h
  exact SB.cons (ST.asg (EV.c2 (ok_alike_in_size W) (EV.nm 0) (EV.nm 1) ⟨m, n, hm, hn, hw, hl, rfl⟩) (EG.tup (EGs.cons (EG.nm 2 c_minus.nd) (EGs.cons (EG.nm 3 c_minus.nd) EGs.nil))))
    (SB.one (ST.ret (EV.c2 (ok_added W) (EV.nm 2) (EV.c2 (ok_many_times W) (EV.nm 3) (EV.neg EV.int) ⟨n, -1, rfl, rfl, hn.1.sm.1, hn.1.sm.2.2, fun q hq x hx => mul_okL (by decide), rfl⟩) ⟨m, _, rfl, rfl, hm.1.sm.1, hm.1.sm.2.2, rfl⟩)))
theorem ok_scaled (W : Wd g) : FN g "scaled" 6 (P2 fun d e r => ∃ m k, IsM d m ∧ e = .int k ∧ (-1000000 ≤ k ∧ k ≤ 1000000) ∧ r = tM (manyM m k)) := by
  refine FN.mk2 W.t_scaled c_scaled (fun _ _ _ _ _ _ us hl => match us, hl with | [_, _], _ => rfl) (fun d e r h => ?_)
  obtain ⟨m, k, hm, rfl, hk, rfl⟩ := h
  obtain ⟨tk, gN⟩ := W.g_MOST_NUMBER
  exact SB.cons (ST.set 2 (EV.c1 (ok_checked_matrix W) (EV.nm 0) ⟨m, hm, rfl⟩) c_scaled.nd) (SB.cons (ST.no (ET.to (ET.not (ET.val (EV.c3 (ok_is_from_to W) (EV.nm 1) (EV.neg (EV.gint gN)) (EV.gint gN) ⟨-1000000, 1000000, rfl, rfl, rfl⟩))) (by rw [isFT_of hk]; rfl)) SB.nil)
    (SB.one (ST.ret (EV.c2 (ok_many_times W) (EV.nm 2) (EV.nm 1) ⟨m, k, rfl, rfl, hm.1.sm.1, hm.1.sm.2.2, fun q hq x hx => num_ok hk, rfl⟩))))
theorem ok_identity (W : Wd g) : FN g "identity" 4 (P1 fun d r => ∃ n : Nat, (1 ≤ n ∧ n ≤ 8) ∧ d = .int (n : Int) ∧ r = tM (unitM n)) := by
  refine FN.mk1 W.t_identity c_identity (fun _ _ _ _ _ _ us hl => match us, hl with | [_], _ => rfl) (fun d r h => ?_)
  obtain ⟨n, hn, rfl, rfl⟩ := h
  obtain ⟨tk, gS⟩ := W.g_MOST_SIZE
  exact SB.cons (ST.exp (EV.c3 (ok_check_number W) (EV.nm 0) EV.int (EV.gint gS) ⟨1, 8, rfl, rfl, (show isFT (.int (n : Int)) 1 8 = true from len_ok hn.1 hn.2), rfl⟩)) (SB.one (ST.ret (EV.c1 (ok_unit W) (EV.nm 0) ⟨n, by omega, rfl, rfl⟩)))
theorem ok_stacked (W : Wd g) : FN g "stacked" 7 (P2 fun d e r => ∃ m n, IsM d m ∧ IsM e n ∧ wd m = wd n ∧ r = tM (m ++ n)) := by
  refine FN.mk2 W.t_stacked c_stacked (fun _ _ _ _ _ _ us hl => match us, hl with | [_, _], _ => rfl) (fun d e r h => ?_)
  obtain ⟨m, n, hm, hn, hw, rfl⟩ := h
  refine SB.cons (ST.asg (EV.c2 (ok_checked_pair W) (EV.nm 0) (EV.nm 1) ⟨m, n, hm, hn, hw, rfl⟩) (EG.tup (EGs.cons (EG.nm 2 c_stacked.nd) (EGs.cons (EG.nm 3 c_stacked.nd) EGs.nil))))
    (SB.one (ST.ret (EV.to (EV.bin (EV.nm 2) (EV.nm 3) (BS.addT ?_)) ?_)))
  · have := hm.1.l8
    have := hn.1.l8
    rw [List.length_map, List.length_map]
    omega
  · show O.dat (.tup _) = O.dat (.tup _)
    rw [List.map_append]
theorem ok_beside (W : Wd g) : FN g "beside" 6 (P2 fun d e r => ∃ m n, IsM d m ∧ IsM e n ∧ m.length = n.length ∧ r = tM (besM m n)) := by
  refine FN.mk2 W.t_beside c_beside (fun _ _ _ _ _ _ us hl => match us, hl with | [_, _], _ => rfl) (fun d e r h => ?_)
  obtain ⟨m, n, hm, hn, hw, rfl⟩ := h
  have e : tM (besM m n) = .tup ((m.zip n).map fun u => .tup (u.1.map D.int ++ u.2.map D.int)) := by
    unfold besM
    rw [tM_map]
    congr 2
    funext u
    rw [List.map_append]
  rw [e]
  refine SB.cons (ST.set 2 (EV.c1 (ok_checked_matrix W) (EV.nm 0) ⟨m, hm, rfl⟩) c_beside.nd) (SB.cons (ST.set 3 (EV.c1 (ok_checked_matrix W) (EV.nm 1) ⟨n, hn, rfl⟩) c_beside.nd) (SB.cons
    (ST.exp (EV.c1 (ok_check_sizes W) (EV.cm (EV.len (EV.nm 2) len_tM W.b.len) (EV.len (EV.nm 3) len_tM W.b.len) CS.eqI) ⟨?_, rfl⟩)) (SB.one (ST.ret (EV.tuple (LC.ev (LC.lZ 4 5 (f1 := tV) (f2 := tV) (g := fun q s => .tup (q.map D.int ++ s.map D.int)) (own := [("row", 4), ("its", 5)]) (by rfl) c_beside.nd rfl (EV.nm 2) (EV.nm 3) (.inl ⟨rfl, rfl⟩) W.b.zip (Nat.le_refl _) OkM.refl hm.1.sm.1 (fun q hq s hs M => EV.bin (EV.nm 4) (EV.nm 5) (BS.addT ?_)))) rfl W.b.tuple)))))
  · exact congrArg D.bl (decide_eq_true (congrArg Int.ofNat hw))
  · rw [List.length_map, List.length_map, hm.1.rect q hq, hn.1.rect s hs]
    have := hm.1.w8
    have := hn.1.w8
    omega
theorem ok_divisor (W : Wd g) : FN g "divisor" 5 (P1 fun d r => ∃ v, IsV d v ∧ r = .int (gcdL v)) := by
  refine FN.mk1 W.t_divisor c_divisor (fun _ _ _ _ _ _ us hl => match us, hl with | [_], _ => rfl) (fun d r h => ?_)
  obtain ⟨v, hv, rfl⟩ := h
  exact SB.one (ST.ret (EV.c1 (ok_divisor_of W) (EV.c1 (ok_checked_vector W) (EV.nm 0) ⟨v, hv, rfl⟩) ⟨v, rfl, rfl⟩))
end
/-! ### what is drawn -/
section
variable {g : Pg}
abbrev rowC (ns : List Int) : Option (List O) := some ((ns.map D.int).map O.dat)
def tk (ns : List Int) (b : Int) : Int := ns.getLastD 0 % b
theorem tk_pos {ns : List Int} {b : Int} (h : 0 < b) : 0 ≤ tk ns b ∧ tk ns b < b := ⟨Int.emod_nonneg _ (by omega), Int.emod_lt_of_pos _ h⟩
def takeR : Rel := fun os M o M' => ∃ (ns : List Int) (b : Int), 0 < b ∧ os = [.adr 0, .dat (.int b)] ∧ M = [rowC ns] ∧ o = .dat (.int (tk ns b)) ∧ M' = [rowC ns.dropLast]
theorem last_at {ns : List Int} (h : ns ≠ []) : ((ns.map D.int).map O.dat)[((ns.map D.int).map O.dat).length - 1]? = some (.dat (.int (ns.getLastD 0))) := by
  rw [List.length_map, List.length_map, List.getElem?_map, List.getElem?_map]
  have : ns[ns.length - 1]? = some (ns.getLastD 0) := by
    rw [← List.getLast?_eq_getElem?, List.getLast?_eq_some_getLast h, List.getLastD_eq_getLast?, List.getLast?_eq_some_getLast h]
    rfl
  rw [this]
  rfl
theorem ok_law_take (W : Wd g) : FN g "_law_take" 1 takeR := by
  refine FN.mk W.t_law_take c_law_take (fun _ _ _ _ _ _ us hl => match us, hl with | [_, _], _ => rfl) (fun os M o M' h => by obtain ⟨ns, b, _, rfl, _⟩ := h; rfl) (fun os M o M' h => ?_)
  obtain ⟨ns, b, hb, rfl, rfl, rfl, rfl⟩ := h
  have hl : ((ns.map D.int).map O.dat).length = ns.length := by rw [List.length_map, List.length_map]
  refine SB.guard (ET.cm (EV.lenC (EV.nm 0) rfl W.b.len) EV.int CS.eqI) (fun z => ?_) (fun z => ?_)
  · rw [hl] at z
    have e : ns = [] := List.eq_nil_of_length_eq_zero (by have := of_decide_eq_true z; omega)
    subst e
    exact SB.one (ST.ret (EV.to EV.int rfl))
  · rw [hl] at z
    have e : ns ≠ [] := fun e => by
      subst e
      exact absurd z (by decide)
    refine SB.one (ST.to (ST.ret (EV.mod (EV.intI (EV.pop (EV.nm 0) rfl (last_at e)) W.b.int) (EV.nm 1) hb)) ?_)
    show Out.rt _ [some (((ns.map D.int).map O.dat).dropLast)] = _
    rw [← List.map_dropLast, ← List.map_dropLast]
    rfl
theorem ev_tk {C : Cc} {E : List O} {M M1 M2 M' : Mem} {a b : Expr} {p pos : Pos} {n : Nat} {ns : List Int} {j : Int} (F : FN C.g "_law_take" 1 takeR) (ha : EV C a E M (.adr n) M1) (hb : EV C b E M1 (.dat (.int j)) M2) (hc : M2[n]? = some (rowC ns)) (hj : 0 < j) (hk : Nat.ble 1 C.k = true := by rfl)
    (hg : C.sc.names.lookup ("_law_take" : Str) = some .globalImplicit := by rfl) (he : ∀ env, starEach [a, b] env = (false, eval a env) :: starEach [b] env := by intro _; rfl) (he2 : ∀ env, starEach [b] env = (false, eval b env) :: starEach [] env := by intro _; rfl) (hpl : ∀ env, (backTo pos (starEach [b] env)).any (·.1) = false := by intro _; rfl) (hM : M' = M2.set n (rowC ns.dropLast) := by rfl) :
    EV C (.Call (.Name "_law_take" p) [a, b] [] pos) E M (.dat (.int (tk ns j))) M' := by
  subst hM
  exact EV.call1 (ds := [.int j]) (cs := ns.map D.int) (cs' := ns.dropLast.map D.int) F (EA.cons ha (EA.cons hb EA.nil he2) he) hc ⟨ns, j, hj, rfl, rfl, rfl, rfl⟩ hk hg (by decide) he hpl
/-! ### alike -/
def Fit : Nat → D → Prop
  | _, .non => True
  | _, .bl _ => True
  | _, .int _ => True
  | _, .str _ => True
  | n + 1, .tup ds => ds.length < 100000 ∧ ∀ x ∈ ds, Fit n x
  | n + 1, .lst ds => ds.length < 100000 ∧ ∀ x ∈ ds, Fit n x
  | _, _ => False
theorem like_flat {kk : Nat} (W : Wd g) {e : D} (hf : Fit 0 e) : SB (mkC g n_law_like s_law_like kk) (defBody s_law_like) (pad n_law_like [.dat e, .dat e]) [] (.rt (.dat (.bl true)) []) := by
  cases e with
  | bl k => exact SB.stop (ST.yes (ET.to (ET.val (EV.isBool (EV.nm 1) W.b.isinstance W.b.bool)) rfl) (SB.one (ST.ret (EV.to (EV.and (EV.isBool (EV.nm 0) W.b.isinstance W.b.bool) (fun _ => EV.and1 (EV.cm (EV.nm 0) (EV.nm 1) CS.eqB)) (fun _ => rfl)) (by cases k <;> rfl)))))
  | int i =>
    exact SB.cons (ST.no (ET.to (ET.val (EV.isBool (EV.nm 1) W.b.isinstance W.b.bool)) rfl) SB.nil) (SB.stop (ST.yes (ET.to (ET.val (EV.isInt (EV.nm 1) W.b.isinstance W.b.int)) rfl) (SB.one (ST.ret (EV.to (EV.and (EV.isInt (EV.nm 0) W.b.isinstance W.b.int) (fun _ => EV.and (EV.not (EV.isBool (EV.nm 0) W.b.isinstance W.b.bool)) (fun _ => EV.and1 (EV.cm (EV.nm 0) (EV.nm 1) CS.eqI)) (fun _ => rfl)) (fun _ => rfl)) (by simp [D.isInt, D.isBl]))))))
  | str x =>
    exact SB.cons (ST.no (ET.to (ET.val (EV.isBool (EV.nm 1) W.b.isinstance W.b.bool)) rfl) SB.nil) (SB.cons (ST.no (ET.to (ET.val (EV.isInt (EV.nm 1) W.b.isinstance W.b.int)) rfl) SB.nil) (SB.stop (ST.yes (ET.to (ET.val (EV.isStr (EV.nm 1) W.b.isinstance W.b.str)) rfl) (SB.one (ST.ret (EV.to (EV.and (EV.isStr (EV.nm 0) W.b.isinstance W.b.str) (fun _ => EV.and1 (EV.cm (EV.nm 0) (EV.nm 1) CS.eqS)) (fun _ => rfl)) (by simp [D.isStr])))))))
  | non =>
    exact SB.cons (ST.no (ET.to (ET.val (EV.isBool (EV.nm 1) W.b.isinstance W.b.bool)) rfl) SB.nil) (SB.cons (ST.no (ET.to (ET.val (EV.isInt (EV.nm 1) W.b.isinstance W.b.int)) rfl) SB.nil) (SB.cons (ST.no (ET.to (ET.val (EV.isStr (EV.nm 1) W.b.isinstance W.b.str)) rfl) SB.nil) (SB.stop (ST.yes (ET.to (ET.isN (EV.nm 1)) rfl) (SB.one (ST.ret (EV.to (EV.isN (EV.nm 0)) rfl)))))))
  | tup ds => exact hf.elim
  | lst ds => exact hf.elim
  | dct ks ds => exact hf.elim
theorem ok_law_like (W : Wd g) : ∀ n : Nat, FN g "_law_like" (n + 1) (P2 fun d e r => e = d ∧ Fit n d ∧ r = .bl true) := fun n => by
  induction n with
  | zero =>
    refine FN.mk2 W.t_law_like c_law_like (fun _ _ _ _ _ _ us hl => match us, hl with | [_, _], _ => rfl) (fun d e r h => ?_)
    obtain ⟨rfl, hf, rfl⟩ := h
    exact like_flat W hf
  | succ n ih =>
    refine FN.mk2 W.t_law_like c_law_like (fun _ _ _ _ _ _ us hl => match us, hl with | [_, _], _ => rfl) (fun d e r h => ?_)
    obtain ⟨rfl, hf, rfl⟩ := h
    have loop : ∀ {ds : List D}, seqD e = some ds → ds.length < 100000 → (∀ x ∈ ds, Fit n x) → SB (mkC g n_law_like s_law_like (n + 1)) ((defBody s_law_like).drop 6) (pad n_law_like [.dat e, .dat e]) [] (.rt (.dat (.bl true)) []) := fun {ds} hs hl hx => by
      have hlen := (seq_of hs).2
      refine SB.cons (ST.no (ET.to (ET.cm (EV.len (EV.nm 0) hlen W.b.len) (EV.len (EV.nm 1) hlen W.b.len) CS.neI) (by simp)) SB.nil) (SB.cons (ST.forN 2 (E_ := fun _ => [.dat e, .dat e, .no]) (M_ := fun _ => []) (EI.rng1 (EV.len (EV.nm 1) hlen W.b.len) W.b.range (by omega)) Fg.refl rfl (fun _ _ => True.intro) c_law_like.nd (fun i hi => ?_)) (SB.one (ST.ret EV.bl)))
      have hi' : i < ds.length := by omega
      have hix : ixD e ((i : Nat) : Int) = some ds[i] := by
        cases e <;> first | (cases hs; exact atI_nat (List.getElem?_eq_getElem hi')) | cases hs
      refine ⟨[.dat e, .dat e, .dat (.int (i : Int))], Fg.cons (Fg.cons (Fg.no Fg.nil)), ?_⟩
      have hset : ([.dat e, .dat e, .no] : List O).set 2 (atI0 0 i) = [.dat e, .dat e, .dat (.int (i : Int))] := by
        show [O.dat e, O.dat e, O.dat (.int (0 + (i : Int)))] = _
        rw [Int.zero_add]
      rw [hset]
      exact SB.one (ST.no (ET.to (ET.not (ET.val (EV.c2 ih (EV.ix (EV.nm 0) (EV.nm 2) hix) (EV.ix (EV.nm 1) (EV.nm 2) hix) ⟨rfl, hx _ (List.getElem_mem hi'), rfl⟩ (Nat.ble_eq_true_of_le (Nat.le_refl _))))) rfl) SB.nil)
    cases e with
    | tup ds =>
      exact SB.cons (ST.no (ET.to (ET.val (EV.isBool (EV.nm 1) W.b.isinstance W.b.bool)) rfl) SB.nil) (SB.cons (ST.no (ET.to (ET.val (EV.isInt (EV.nm 1) W.b.isinstance W.b.int)) rfl) SB.nil) (SB.cons (ST.no (ET.to (ET.val (EV.isStr (EV.nm 1) W.b.isinstance W.b.str)) rfl) SB.nil) (SB.cons (ST.no (ET.to (ET.isN (EV.nm 1)) rfl) SB.nil)
        (SB.cons (ST.no (ET.to (EW.et (EW.and (ET.val (EV.isTuple (EV.nm 1) W.b.isinstance W.b.tuple)) (fun _ => EW.and1 (ET.not (ET.val (EV.isTuple (EV.nm 0) W.b.isinstance W.b.tuple)))) (fun _ => rfl))) rfl) SB.nil)
        (SB.cons (ST.no (ET.to (EW.et (EW.and (k1 := false) (k2 := true) (ET.to (ET.val (EV.isList (EV.nm 1) W.b.isinstance W.b.list)) rfl) (fun z => nomatch z) (fun _ => rfl))) rfl) SB.nil) (loop rfl hf.1 hf.2))))))
    | lst ds =>
      exact SB.cons (ST.no (ET.to (ET.val (EV.isBool (EV.nm 1) W.b.isinstance W.b.bool)) rfl) SB.nil) (SB.cons (ST.no (ET.to (ET.val (EV.isInt (EV.nm 1) W.b.isinstance W.b.int)) rfl) SB.nil) (SB.cons (ST.no (ET.to (ET.val (EV.isStr (EV.nm 1) W.b.isinstance W.b.str)) rfl) SB.nil) (SB.cons (ST.no (ET.to (ET.isN (EV.nm 1)) rfl) SB.nil)
        (SB.cons (ST.no (ET.to (EW.et (EW.and (k1 := false) (k2 := true) (ET.to (ET.val (EV.isTuple (EV.nm 1) W.b.isinstance W.b.tuple)) rfl) (fun z => nomatch z) (fun _ => rfl))) rfl) SB.nil)
        (SB.cons (ST.no (ET.to (EW.et (EW.and (ET.val (EV.isList (EV.nm 1) W.b.isinstance W.b.list)) (fun _ => EW.and1 (ET.not (ET.val (EV.isList (EV.nm 0) W.b.isinstance W.b.list)))) (fun _ => rfl))) rfl) SB.nil) (loop rfl hf.1 hf.2))))))
    | bl k => exact like_flat W True.intro
    | int i => exact like_flat W True.intro
    | str x => exact like_flat W True.intro
    | non => exact like_flat W True.intro
    | dct ks ds => exact hf.elim
end
/-! ### firm, loose -/
section
variable {g : Pg}
section
variable {C : Cc} {E : List O} {M M1 : Mem} {elt iter : Expr} {p : Pos} {x : Str} {scope : Scope} {own : List (Str × Nat)} {d : D}
theorem LC.lX {α : Type} (jx : Nat) {xs : List α} {f : α → D} (A : Nat → Mem) (acc : Nat → List O) (ok : blkC C.N C.sc scope own = true) (nd : C.N.Nodup) (ho : own.map (·.2) = [jx]) (h : EV C iter E M (.dat d) M1) (hd : seqD d = some (xs.map f)) (hA : A 0 = M1 ++ [some []]) (ha : acc 0 = [])
    (step : ∀ (i : Nat) (hi : i < xs.length), ∃ o Mc, EV (C.blk scope) elt ((wipeE E [jx]).set jx (.dat (f xs[i]))) (A i) o Mc ∧ Mc[M1.length]? = some (some (acc i)) ∧ (acc i).length < 100000 ∧ A (i + 1) = Mc.set M1.length (some (acc i ++ [o])) ∧ acc (i + 1) = acc i ++ [o])
    (hi : C.N[jx]? = some x := by rfl) (hx : Loc (C.blk scope).sc x := by first | exact Or.inl rfl | exact Or.inr rfl) (hf' : (C.blk scope).fn x = true ∨ (C.blk scope).sc.names.lookup x = some .local := by first | exact .inl rfl | exact .inr rfl)
    (hf : ∀ env x, foldedSetIterable iter env x = pure x := by intro _ _; rfl) : LC C elt (.Name x p) iter [] scope own E M (.adr M1.length) (A xs.length) := by
  have hlen : (xs.map f).length = xs.length := List.length_map _
  have key := LC.gen (C := C) (tg := .Name x p) (elt := elt) (iter := iter) (ifs := []) (scope := scope) (own := own) (A := A) (acc := acc) ok nd (EI.seq h hd) hA ha (fun _ _ => True.intro) (fun i hi' => by
    rw [hlen] at hi'
    obtain ⟨o, Mc, h1, h2, h3, h4, h5⟩ := step i hi'
    refine ⟨_, _, true, _, EGv.nm jx nd (by rw [ho]; simp) hi hx hf', EP.nil, .inl ⟨rfl, o, Mc, ?_, h2, h3, h4, h5⟩⟩
    rw [ho, atO_map hi']
    exact h1) hf
  rw [hlen] at key
  exact key
end
theorem seq_int {d : D} {ds : List D} (h : seqD d = some ds) : d.isInt = false := by
  cases d <;> first | rfl | cases h
def F_same (d r : D) : Prop := ∃ i : Int, d = .int i ∧ r = .int i
theorem ok_law_firm0 (W : Wd g) : FN g "_law_firm" 1 (P1 F_same) := by
  refine FN.mk1 W.t_law_firm c_law_firm (fun _ _ _ _ _ _ us hl => match us, hl with | [_], _ => rfl) (fun d r h => ?_)
  obtain ⟨i, rfl, rfl⟩ := h
  exact SB.stop (ST.yes (ET.to (ET.val (EV.isInt (EV.nm 0) W.b.isinstance W.b.int)) rfl) (SB.one (ST.ret (EV.nm 0))))
theorem ok_law_firm1 (W : Wd g) : FN g "_law_firm" 2 (P1 fun d r => ∃ v : List Int, seqD d = some (v.map .int) ∧ v.length < 100000 ∧ r = tV v) := by
  refine FN.mk1 W.t_law_firm c_law_firm (fun _ _ _ _ _ _ us hl => match us, hl with | [_], _ => rfl) (fun d r h => ?_)
  obtain ⟨v, hd, hl, rfl⟩ := h
  exact SB.cons (ST.no (ET.to (ET.val (EV.isInt (EV.nm 0) W.b.isinstance W.b.int)) (seq_int hd)) SB.nil) (SB.one (ST.ret (EV.tuple (LC.ev (LC.lM 1 (xs := v) (f := D.int) (g := D.int) (own := [("x", 1)]) (by rfl) c_law_firm.nd rfl (EV.nm 0) hd (Nat.le_refl _) OkM.refl hl (fun y hy M => EV.c1 (ok_law_firm0 W) (EV.nm 1) ⟨y, rfl, rfl⟩))) rfl W.b.tuple)))
theorem ok_law_firm2 (W : Wd g) : FN g "_law_firm" 3 (P1 fun d r => ∃ m, IsM d m ∧ r = tM m) := by
  refine FN.mk1 W.t_law_firm c_law_firm (fun _ _ _ _ _ _ us hl => match us, hl with | [_], _ => rfl) (fun d r h => ?_)
  obtain ⟨m, ⟨hx, ds, hd, hp⟩, rfl⟩ := h
  have hl : ds.length < 100000 := by
    have := hx.l8
    rw [hp.length]
    omega
  have e : tM m = .tup (ds.map tupD) := by rw [paired_tup hp]
  rw [e]
  refine SB.cons (ST.no (ET.to (ET.val (EV.isInt (EV.nm 0) W.b.isinstance W.b.int)) (seq_int hd)) SB.nil) (SB.one (ST.ret (EV.tuple (LC.ev (LC.lM 1 (xs := ds) (f := fun e => e) (g := tupD) (own := [("x", 1)]) (by rfl) c_law_firm.nd rfl (EV.nm 0) (by rw [hd, List.map_id']) (Nat.le_refl _) OkM.refl hl (fun y hy M => ?_))) rfl W.b.tuple)))
  obtain ⟨r, hr', hr⟩ := paired_mem hp y hy
  have e2 : tupD y = tV r := by
    show D.tup _ = _
    rw [hr]
    rfl
  show EV _ _ _ _ (.dat (tupD y)) _
  rw [e2]
  exact EV.c1 (ok_law_firm1 W) (EV.nm 1) ⟨r, hr, hx.sm.2.2 r hr', rfl⟩
theorem ok_law_loose0 (W : Wd g) : FN g "_law_loose" 1 (P1 F_same) := by
  refine FN.mk1 W.t_law_loose c_law_loose (fun _ _ _ _ _ _ us hl => match us, hl with | [_], _ => rfl) (fun d r h => ?_)
  obtain ⟨i, rfl, rfl⟩ := h
  exact SB.stop (ST.yes (ET.to (ET.val (EV.isInt (EV.nm 0) W.b.isinstance W.b.int)) rfl) (SB.one (ST.ret (EV.nm 0))))
theorem ok_law_loose1 (W : Wd g) : FN g "_law_loose" 2 (P1 fun d r => ∃ v : List Int, seqD d = some (v.map .int) ∧ v.length < 100000 ∧ r = lV v) := by
  refine FN.mk1 W.t_law_loose c_law_loose (fun _ _ _ _ _ _ us hl => match us, hl with | [_], _ => rfl) (fun d r h => ?_)
  obtain ⟨v, hd, hl, rfl⟩ := h
  exact SB.cons (ST.no (ET.to (ET.val (EV.isInt (EV.nm 0) W.b.isinstance W.b.int)) (seq_int hd)) SB.nil) (SB.one (ST.ret (LC.ev (LC.lM 1 (xs := v) (f := D.int) (g := D.int) (own := [("x", 1)]) (by rfl) c_law_loose.nd rfl (EV.nm 0) hd (Nat.le_refl _) OkM.refl hl (fun y hy M => EV.c1 (ok_law_loose0 W) (EV.nm 1) ⟨y, rfl, rfl⟩)))))
def lstD (e : D) : D := .lst ((seqD e).getD [])
theorem paired_lst : ∀ {ds : List D} {m : List (List Int)}, Paired (fun e (r : List Int) => seqD e = some (r.map D.int)) ds m → ds.map lstD = m.map lV
  | _, _, .nil => rfl
  | _, _, .cons h r => by
    rw [List.map_cons, List.map_cons, paired_lst r]
    show D.lst _ :: _ = _
    rw [h]
    rfl
theorem ok_law_loose2 (W : Wd g) : FN g "_law_loose" 3 (P1 fun d r => ∃ m, IsM d m ∧ r = lM m) := by
  refine FN.mk1 W.t_law_loose c_law_loose (fun _ _ _ _ _ _ us hl => match us, hl with | [_], _ => rfl) (fun d r h => ?_)
  obtain ⟨m, ⟨hx, ds, hd, hp⟩, rfl⟩ := h
  have hl : ds.length < 100000 := by
    have := hx.l8
    rw [hp.length]
    omega
  have e : lM m = .lst (ds.map lstD) := by rw [paired_lst hp]
  rw [e]
  refine SB.cons (ST.no (ET.to (ET.val (EV.isInt (EV.nm 0) W.b.isinstance W.b.int)) (seq_int hd)) SB.nil) (SB.one (ST.ret (LC.ev (LC.lM 1 (xs := ds) (f := fun e => e) (g := lstD) (own := [("x", 1)]) (by rfl) c_law_loose.nd rfl (EV.nm 0) (by rw [hd, List.map_id']) (Nat.le_refl _) OkM.refl hl (fun y hy M => ?_)))))
  obtain ⟨r, hr', hr⟩ := paired_mem hp y hy
  have e2 : lstD y = lV r := by
    show D.lst _ = _
    rw [hr]
    rfl
  show EV _ _ _ _ (.dat (lstD y)) _
  rw [e2]
  exact EV.c1 (ok_law_loose1 W) (EV.nm 1) ⟨r, hr, hx.sm.2.2 r hr', rfl⟩
theorem rowC_app {v : List Int} {x : Int} : rowC (v ++ [x]) = some ((v.map D.int).map O.dat ++ [O.dat (D.int x)]) := by
  show some _ = some _
  rw [List.map_append, List.map_append]
  rfl
theorem paired_get {α β : Type} {R : α → β → Prop} : ∀ {xs : List α} {ys : List β}, Paired R xs ys → ∀ (i : Nat) (h1 : i < xs.length) (h2 : i < ys.length), R xs[i] ys[i]
  | _, _, .nil, i, h1, _ => absurd h1 (by simp)
  | _, _, .cons h r, 0, _, _ => h
  | _, _, .cons h r, i + 1, h1, h2 => paired_get r i (by simpa using h1) (by simpa using h2)
/-- loose things that will be changed -/
def looseR1 : Rel := fun os M o M' => ∃ (d : D) (v : List Int), seqD d = some (v.map .int) ∧ v.length < 100000 ∧ os = [.dat d] ∧ M = [] ∧ o = .adr 0 ∧ M' = [rowC v]
theorem ok_law_looseC1 (W : Wd g) : FN g "_law_loose" 2 looseR1 := by
  refine FN.mk W.t_law_loose c_law_loose (fun _ _ _ _ _ _ us hl => match us, hl with | [_], _ => rfl) (fun os M o M' h => by obtain ⟨d, v, _, _, rfl, _⟩ := h; rfl) (fun os M o M' h => ?_)
  obtain ⟨d, v, hd, hl, rfl, rfl, rfl, rfl⟩ := h
  refine SB.cons (ST.no (ET.to (ET.val (EV.isInt (EV.nm 0) W.b.isinstance W.b.int)) (seq_int hd)) SB.nil) (SB.one (ST.to (ST.ret (LC.ev (LC.lX 1 (xs := v) (f := D.int) (M1 := []) (fun i => [rowC (v.take i)]) (fun i => ((v.take i).map D.int).map O.dat) (own := [("x", 1)]) (by rfl) c_law_loose.nd rfl (EV.nm 0) hd rfl rfl (fun i hi => ?_)))) ?_))
  · refine ⟨_, _, EV.c1 (ok_law_loose0 W) (EV.nm 1) ⟨v[i], rfl, rfl⟩, rfl, ?_, ?_, ?_⟩
    · rw [List.length_map, List.length_map, List.length_take]
      omega
    · rw [List.take_succ_eq_append_getElem hi]
      show [rowC _] = [some _]
      rw [rowC_app]
    · rw [List.take_succ_eq_append_getElem hi, List.map_append, List.map_append]
      rfl
  · rw [List.take_length]
    rfl
/-- a matrix as cells, its own at b -/
def matC (b : Nat) (m : List (List Int)) : Mem := some ((List.range m.length).map fun i => .adr (b + 1 + i)) :: m.map rowC
theorem matC_ren (b : Nat) (m : List (List Int)) : ((matC 0 m).map fun c => c.map fun ps => ps.map (·.ren fun k => b + k)) = matC b m := by
  unfold matC
  rw [List.map_cons, List.map_map]
  congr 1
  · show some (List.map _ (List.map _ _)) = _
    rw [List.map_map]
    congr 2
    funext i
    show O.adr (b + (0 + 1 + i)) = _
    congr 1
    omega
  · congr 1
    funext r
    show some (((r.map D.int).map O.dat).map _) = _
    rw [ren_dat]
def looseR2 : Rel := fun os M o M' => ∃ (d : D) (m : List (List Int)), IsM d m ∧ os = [.dat d] ∧ M = [] ∧ o = .adr 0 ∧ M' = matC 0 m
theorem ok_law_looseC2 (W : Wd g) : FN g "_law_loose" 3 looseR2 := by
  refine FN.mk W.t_law_loose c_law_loose (fun _ _ _ _ _ _ us hl => match us, hl with | [_], _ => rfl) (fun os M o M' h => by obtain ⟨d, v, _, rfl, _⟩ := h; rfl) (fun os M o M' h => ?_)
  obtain ⟨d, m, ⟨hx, ds, hd, hp⟩, rfl, rfl, rfl, rfl⟩ := h
  have hl : ds.length = m.length := hp.length
  have h8 := hx.l8
  refine SB.cons (ST.no (ET.to (ET.val (EV.isInt (EV.nm 0) W.b.isinstance W.b.int)) (seq_int hd)) SB.nil) (SB.one (ST.to (ST.ret (LC.ev (LC.lX 1 (xs := ds) (f := fun e => e) (M1 := []) (fun i => some ((List.range i).map fun k => .adr (0 + 1 + k)) :: (m.take i).map rowC) (fun i => (List.range i).map fun k => .adr (0 + 1 + k)) (own := [("x", 1)]) (by rfl) c_law_loose.nd rfl (EV.nm 0) (by rw [hd, List.map_id']) rfl rfl (fun i hi => ?_)))) ?_))
  · have him : i < m.length := by omega
    obtain ⟨r, hr', hr⟩ : ∃ r, r = m[i] ∧ seqD ds[i] = some (r.map .int) := ⟨m[i], rfl, paired_get hp i hi him⟩
    have hmem : r ∈ m := by
      rw [hr']
      exact List.getElem_mem him
    have hlen : (some ((List.range i).map fun k => O.adr (0 + 1 + k)) :: (m.take i).map rowC : Mem).length = 1 + i := by
      rw [List.length_cons, List.length_map, List.length_take]
      omega
    refine ⟨_, _, EV.callM (ds := [ds[i]]) (o := .adr (1 + i)) (M2 := (some ((List.range i).map fun k => O.adr (0 + 1 + k)) :: (m.take i).map rowC) ++ [rowC r]) (ok_law_looseC1 W) (EA.cons (EV.nm 1) EA.nil) ⟨ds[i], r, hr, hx.sm.2.2 r hmem, rfl, rfl, rfl, rfl⟩ ?_ ?_, rfl, ?_, ?_, ?_⟩
    · show _ = O.adr _
      rw [hlen]
      rfl
    · congr 1
      show [rowC r] = [some (((r.map D.int).map O.dat).map _)]
      rw [ren_dat]
    · rw [List.length_map, List.length_range]
      omega
    · rw [List.take_succ_eq_append_getElem him, List.map_append, List.range_succ, List.map_append, hr']
      show _ = (_ :: (_ ++ _))
      rfl
    · rw [List.range_succ, List.map_append]
      rfl
  · rw [hl, List.take_length]
    rfl
end
/-! ### the greatest, own divisors -/
section
variable {g : Pg}
def mostL (a : Nat) (l : List Int) : Nat := l.foldl (fun b x => max b x.natAbs) a
def mostM (m : List (List Int)) : Nat := m.foldl mostL 0
theorem mostL_le {l : List Int} : ∀ {a b : Nat}, mostL a l ≤ b ↔ a ≤ b ∧ ∀ x ∈ l, x.natAbs ≤ b := by
  induction l with
  | nil => intro a b; simp [mostL]
  | cons y l ih =>
    intro a b
    show mostL (max a y.natAbs) l ≤ b ↔ _
    rw [ih, Nat.max_le, List.forall_mem_cons, and_assoc]
theorem mostF_le {m : List (List Int)} : ∀ {a b : Nat}, m.foldl mostL a ≤ b ↔ a ≤ b ∧ ∀ r ∈ m, ∀ x ∈ r, x.natAbs ≤ b := by
  induction m with
  | nil => intro a b; simp
  | cons y m ih =>
    intro a b
    rw [List.foldl_cons, ih, mostL_le, List.forall_mem_cons, and_assoc]
theorem set2 {a b c d e : O} : ([a, b, c, d] : List O).set 2 e = [a, b, e, d] := rfl
theorem ok_law_most (W : Wd g) : FN g "_law_most" 1 (P1 fun d r => ∃ m, d = tM m ∧ r = .int (mostM m : Nat)) := by
  refine FN.mk1 W.t_law_most c_law_most (fun _ _ _ _ _ _ us hl => match us, hl with | [_], _ => rfl) (fun d r h => ?_)
  obtain ⟨m, rfl, rfl⟩ := h
  have hlen : (m.map tV).length = m.length := List.length_map _
  refine SB.cons (ST.set 1 EV.int c_law_most.nd) (SB.cons (ST.forN 2 (E_ := fun n => [.dat (tM m), .dat (.int ((m.take n).foldl mostL 0 : Nat)), .no, .no]) (M_ := fun _ => []) (EI.tup (EV.nm 0)) Fg.refl rfl (fun _ _ => True.intro) c_law_most.nd (fun n hn => ?_)) (SB.one (ST.ret (EV.to (EV.nm 1) ?_))))
  · rw [hlen] at hn
    rw [atO_map hn]
    have hl2 : (m[n].map D.int).length = m[n].length := List.length_map _
    refine ⟨[.dat (tM m), .dat (.int ((m.take (n + 1)).foldl mostL 0 : Nat)), .dat (tV m[n]), .no], Fg.cons (Fg.cons (Fg.no Fg.refl)), ?_⟩
    have e : (m.take (n + 1)).foldl mostL 0 = mostL ((m.take n).foldl mostL 0) m[n] := by
      rw [List.take_succ_eq_append_getElem hn, List.foldl_append]
      rfl
    rw [e]
    refine SB.to (SB.one (ST.forN 3 (E_ := fun k => [.dat (tM m), .dat (.int (mostL ((m.take n).foldl mostL 0) (m[n].take k) : Nat)), .dat (tV m[n]), .no]) (M_ := fun _ => []) (EI.tup (EV.nm 2)) Fg.refl rfl (fun _ _ => True.intro) c_law_most.nd (fun k hk => ?_))) ?_
    · rw [hl2] at hk
      rw [atO_map hk]
      refine ⟨[.dat (tM m), .dat (.int (mostL ((m.take n).foldl mostL 0) (m[n].take (k + 1)) : Nat)), .dat (tV m[n]), .dat (.int m[n][k])], Fg.cons (Fg.cons (Fg.cons (Fg.no Fg.nil))), ?_⟩
      have e2 : mostL ((m.take n).foldl mostL 0) (m[n].take (k + 1)) = max (mostL ((m.take n).foldl mostL 0) (m[n].take k)) (m[n][k]).natAbs := by
        rw [List.take_succ_eq_append_getElem hk]
        unfold mostL
        rw [List.foldl_append]
        rfl
      rw [e2]
      refine SB.to (SB.one (ST.set 1 (EV.max2 (EV.nm 1) (EV.abs (EV.nm 3) W.b.abs) W.b.max) c_law_most.nd)) ?_
      have e3 : ∀ a b : Nat, max (a : Int) (b : Int) = ((max a b : Nat) : Int) := fun a b => by omega
      show Out.nx [_, .dat (.int (max _ _)), _, _] [] = _
      rw [e3]
    · rw [hl2, List.take_length]
  · rw [hlen, List.take_length]
    rfl
/-- Euclid's steps -/
def eu (a b : Nat) : Nat → Nat × Nat
  | 0 => (a, b)
  | n + 1 => ((eu a b n).2, (eu a b n).1 % (eu a b n).2)
theorem eu_gcd {a b : Nat} : ∀ n, (∀ k, k < n → (eu a b k).2 ≠ 0) → Nat.gcd (eu a b n).1 (eu a b n).2 = Nat.gcd a b := fun n => by
  induction n with
  | zero => intro _; rfl
  | succ n ih =>
    intro h
    rw [← ih fun k hk => h k (Nat.lt_succ_of_lt hk)]
    show Nat.gcd (eu a b n).2 ((eu a b n).1 % (eu a b n).2) = _
    rw [Nat.gcd_comm (eu a b n).1, Nat.gcd_rec (eu a b n).2 (eu a b n).1, Nat.gcd_comm]
theorem eu_end {a b : Nat} : ∀ c n, (eu a b n).2 < 2 ^ c → ∃ m, m ≤ n + 2 * c ∧ (eu a b m).2 = 0 := fun c => by
  induction c with
  | zero => exact fun n h => ⟨n, Nat.le_refl _, by simpa using h⟩
  | succ c ih =>
    intro n h
    by_cases h0 : (eu a b n).2 = 0
    · exact ⟨n, by omega, h0⟩
    by_cases h1 : (eu a b (n + 1)).2 = 0
    · exact ⟨n + 1, by omega, h1⟩
    have e1 : (eu a b (n + 1)).2 = (eu a b n).1 % (eu a b n).2 := rfl
    have e2 : (eu a b (n + 2)).2 = (eu a b n).2 % (eu a b (n + 1)).2 := rfl
    have l1 : (eu a b (n + 1)).2 < (eu a b n).2 := by
      rw [e1]
      exact Nat.mod_lt _ (Nat.pos_of_ne_zero h0)
    have l2 : (eu a b (n + 2)).2 < (eu a b (n + 1)).2 := by
      rw [e2]
      exact Nat.mod_lt _ (Nat.pos_of_ne_zero h1)
    have l3 : (eu a b (n + 1)).2 + (eu a b (n + 2)).2 ≤ (eu a b n).2 := by
      have d := Nat.div_add_mod (eu a b n).2 (eu a b (n + 1)).2
      have p : 1 ≤ (eu a b n).2 / (eu a b (n + 1)).2 := Nat.div_pos (Nat.le_of_lt l1) (Nat.pos_of_ne_zero h1)
      have q := Nat.mul_le_mul_left (eu a b (n + 1)).2 p
      rw [e2]
      omega
    obtain ⟨m, hm, hz⟩ := ih (n + 2) (by rw [Nat.pow_succ] at h; omega)
    exact ⟨m, by omega, hz⟩
theorem least {P : Nat → Prop} : ∀ m, P m → ∃ k, k ≤ m ∧ P k ∧ ∀ j, j < k → ¬ P j := fun m => by
  induction m using Nat.strongRecOn with
  | _ m ih =>
    intro h
    by_cases hk : ∃ j, j < m ∧ P j
    · obtain ⟨j, hj, hp⟩ := hk
      obtain ⟨k, h1, h2, h3⟩ := ih j hj hp
      exact ⟨k, by omega, h2, h3⟩
    · exact ⟨m, Nat.le_refl _, h, fun j hj hp => hk ⟨j, hj, hp⟩⟩
theorem ok_law_gcd (W : Wd g) : FN g "_law_gcd" 1 (P1 fun d r => ∃ v, IsV d v ∧ r = .int (gcdL v)) := by
  refine FN.mk1 W.t_law_gcd c_law_gcd (fun _ _ _ _ _ _ us hl => match us, hl with | [_], _ => rfl) (fun d r h => ?_)
  obtain ⟨v, hv, rfl⟩ := h
  have hlen : (v.map D.int).length = v.length := List.length_map _
  refine SB.cons (ST.set 1 EV.int c_law_gcd.nd) (SB.cons (ST.forN 2 (E_ := fun n => [.dat d, .dat (.int (gcdL (v.take n))), .no, .no, .no, .no]) (M_ := fun _ => []) (EI.seq (EV.nm 0) hv.2) Fg.refl rfl (fun _ _ => True.intro) c_law_gcd.nd (fun n hn => ?_)) (SB.one (ST.ret (EV.to (EV.nm 1) ?_))))
  · rw [hlen] at hn
    rw [atO_map hn]
    have e : gcdL (v.take (n + 1)) = (Nat.gcd (gcdL (v.take n)).natAbs (v[n]).natAbs : Nat) := by
      unfold gcdL
      rw [List.take_succ_eq_append_getElem hn, List.foldl_append]
      rfl
    have hpos : ∀ n, 0 ≤ gcdL (v.take n) := fun n => by
      rcases Nat.eq_zero_or_pos n with rfl | hp
      · exact Int.le_refl _
      · unfold gcdL
        rcases List.eq_nil_or_concat (v.take n) with h | ⟨a, b, h⟩
        · rw [h]; exact Int.le_refl _
        · rw [h, List.concat_eq_append, List.foldl_append]
          exact Int.natCast_nonneg _
    obtain ⟨a, ha⟩ : ∃ a : Nat, gcdL (v.take n) = (a : Int) := ⟨(gcdL (v.take n)).natAbs, by have := hpos n; omega⟩
    have hnum := hv.1.num v[n] (List.getElem_mem hn)
    obtain ⟨m0, hm0, hz0⟩ := eu_end (a := a) (b := v[n].natAbs) 20 0 (by show v[n].natAbs < 2 ^ 20; omega)
    obtain ⟨m, hm, hz, hlt⟩ := least (P := fun k => (eu a v[n].natAbs k).2 = 0) m0 hz0
    have hr : (eu a v[n].natAbs m).1 = Nat.gcd a v[n].natAbs := by
      have := eu_gcd (a := a) (b := v[n].natAbs) m hlt
      rw [hz, Nat.gcd_zero_right] at this
      exact this
    rw [e, ha]
    refine ⟨[.dat d, .dat (.int ((eu a v[n].natAbs m).1 : Nat)), .dat (.int v[n]), .dat (.int ((eu a v[n].natAbs m).2 : Nat)), .dat (.int (m : Int)), .no], ?_, SB.cons (ST.set 3 (EV.abs (EV.nm 2) W.b.abs) c_law_gcd.nd) (SB.one (ST.for (m := m) (n := 60) (E_ := fun k => [.dat d, .dat (.int ((eu a v[n].natAbs k).1 : Nat)), .dat (.int v[n]), .dat (.int ((eu a v[n].natAbs k).2 : Nat)), .no, .no]) (M_ := fun _ => []) (EI.rng1 EV.int W.b.range (by decide)) Fg.refl rfl (by omega) (fun _ _ => True.intro) (fun k hk => ?_) (.inr ⟨by omega, _, _, EG.nm 4 c_law_gcd.nd, .inr ⟨_, _, SB.stop (ST.yes (ET.to (ET.cm (EV.nm 3) EV.int CS.eqI) ?_) (SB.one ST.brk)), ?_⟩⟩)))⟩
    · rw [hr]
      exact Fg.cons (Fg.cons (Fg.no (Fg.no (Fg.no Fg.refl))))
    · have h0 := hlt k hk
      have hpos : (0 : Int) < ((eu a v[n].natAbs k).2 : Nat) := by
        have : (eu a v[n].natAbs k).2 ≠ 0 := h0
        omega
      refine ⟨_, _, [.dat d, .dat (.int ((eu a v[n].natAbs (k + 1)).1 : Nat)), .dat (.int v[n]), .dat (.int ((eu a v[n].natAbs (k + 1)).2 : Nat)), .dat (.int ((k : Nat) : Int)), .dat (.int ((eu a v[n].natAbs (k + 1)).2 : Nat))], EG.nm 4 c_law_gcd.nd, Fg.cons (Fg.cons (Fg.cons (Fg.cons (Fg.no (Fg.no Fg.nil))))), .inl ?_⟩
      refine SB.cons (ST.no (ET.to (ET.cm (EV.nm 3) EV.int CS.eqI) (decide_eq_false (by omega))) SB.nil) (SB.to (SB.cons (ST.set 5 (EV.mod (EV.intI (EV.nm 1) W.b.int) (EV.nm 3) hpos) c_law_gcd.nd) (SB.cons (ST.set 1 (EV.nm 3) c_law_gcd.nd) (SB.cons (ST.set 3 (EV.nm 5) c_law_gcd.nd) SB.nil))) ?_)
      have e3 : (((eu a v[n].natAbs k).1 : Nat) : Int) % ((eu a v[n].natAbs k).2 : Nat) = ((eu a v[n].natAbs (k + 1)).2 : Nat) := (Int.natCast_emod _ _).symm
      show Out.nx [_, .dat (.int ((eu a v[n].natAbs k).2 : Nat)), _, .dat (.int (((eu a v[n].natAbs k).1 : Nat) % ((eu a v[n].natAbs k).2 : Nat))), .dat (.int (0 + (k : Int))), .dat (.int (((eu a v[n].natAbs k).1 : Nat) % ((eu a v[n].natAbs k).2 : Nat)))] [] = _
      rw [e3, Int.zero_add]
      rfl
    · rw [hz]
      rfl
    · show Out.nx _ _ = Out.nx [_, _, _, _, .dat (.int (0 + (m : Int))), _] []
      rw [Int.zero_add]
  · rw [hlen, List.take_length]
end
/-! ### own sums -/
section
variable {g : Pg}
theorem zip_range {α β γ : Type} (a0 : α) (b0 : β) (f : α → β → γ) : ∀ (xs : List α) (ys : List β), xs.length = ys.length → (xs.zip ys).map (fun u => f u.1 u.2) = (List.range xs.length).map fun k => f (xs.getD k a0) (ys.getD k b0)
  | [], [], _ => rfl
  | [], _ :: _, h => by simp at h
  | _ :: _, [], h => by simp at h
  | x :: xs, y :: ys, h => by
    rw [List.zip_cons_cons, List.map_cons, zip_range a0 b0 f xs ys (by simpa using h), List.length_cons, List.range_succ_eq_map, List.map_cons, List.map_map]
    rfl
theorem map_range {α γ : Type} (a0 : α) (f : α → γ) : ∀ xs : List α, xs.map f = (List.range xs.length).map fun k => f (xs.getD k a0)
  | [] => rfl
  | x :: xs => by
    rw [List.map_cons, map_range a0 f xs, List.length_cons, List.range_succ_eq_map, List.map_cons, List.map_map]
    rfl
theorem getD_map {α β : Type} {f : α → β} {b0 : β} {a0 : α} {xs : List α} {k : Nat} (h : k < xs.length) : (xs.map f).getD k b0 = f (xs.getD k a0) := by
  rw [List.getD_eq_getElem?_getD, List.getD_eq_getElem?_getD, List.getElem?_map, List.getElem?_eq_getElem h]
  rfl
theorem dot_range {r c : List Int} (h : r.length = c.length) : dot r c = ((List.range r.length).map fun k => r.getD k 0 * c.getD k 0).sum := by
  unfold dot
  rw [zip_range 0 0 (fun x y => x * y) r c h]
theorem isV_ix {e : D} {r : List Int} {j : Nat} (h : seqD e = some (r.map D.int)) (hj : j < r.length) : ixD e ((j : Nat) : Int) = some (.int (r.getD j 0)) := by
  have : (r.map D.int)[j]? = some (.int (r.getD j 0)) := by
    rw [List.getElem?_map, getD_of_lt hj]
    rfl
  cases e <;> first | (cases h; exact atI_nat this) | cases h
theorem isM_ix {e : D} {m : List (List Int)} (h : IsM e m) {i : Nat} (hi : i < m.length) : ∃ d, ixD e ((i : Nat) : Int) = some d ∧ seqD d = some ((m.getD i []).map D.int) := by
  obtain ⟨hm, ds, hd, hp⟩ := h
  have hl : i < ds.length := by rw [hp.length]; exact hi
  refine ⟨ds[i], ?_, ?_⟩
  · have : ds[i]? = some ds[i] := List.getElem?_eq_getElem hl
    cases e <;> first | (cases hd; exact atI_nat this) | cases hd
  · have := paired_get hp i hl hi
    rw [List.getD_eq_getElem?_getD, List.getElem?_eq_getElem hi]
    exact this
theorem isM_len {e : D} {m : List (List Int)} (h : IsM e m) : lenD e = some m.length := by
  obtain ⟨_, ds, hd, hp⟩ := h
  rw [len_seq hd, hp.length]
theorem isV_len {e : D} {r : List Int} (h : seqD e = some (r.map D.int)) : lenD e = some r.length := by
  rw [len_seq h, List.length_map]
theorem mem_getD {α : Type} {m : List α} {a0 : α} {i : Nat} (hi : i < m.length) : m.getD i a0 ∈ m := by
  rw [List.getD_eq_getElem?_getD, List.getElem?_eq_getElem hi]
  exact List.getElem_mem hi
theorem Mx.len {m : List (List Int)} (h : Mx m) {i : Nat} (hi : i < m.length) : (m.getD i []).length = wd m := h.rect _ (mem_getD hi)
theorem Mx.at {m : List (List Int)} (h : Mx m) {i j : Nat} (hi : i < m.length) (hj : j < wd m) : -1000000 ≤ (m.getD i []).getD j 0 ∧ (m.getD i []).getD j 0 ≤ 1000000 := h.num _ (mem_getD hi) _ (mem_getD (by rw [h.len hi]; exact hj))
theorem Mx.z {m : List (List Int)} (h : Mx m) : 0 < m.length := h.l1
theorem wd_get {m : List (List Int)} : wd m = (m.getD 0 []).length := by
  cases m <;> rfl
/-- a matrix by its places -/
def byI (n w : Nat) (f : Nat → Nat → Int) : List (List Int) := (List.range n).map fun i => (List.range w).map fun j => f i j
theorem mulM_by {X N : List (List Int)} (hx : Mx X) (hn : Mx N) (h : N.length = wd X) : mulM X N = byI X.length (wd N) fun i j => ((List.range N.length).map fun k => (X.getD i []).getD k 0 * (N.getD k []).getD j 0).sum := by
  unfold mulM byI
  rw [map_range [] (fun r => (flip N).map fun c => dot r c) X]
  refine List.map_congr_left fun i hi => ?_
  have hi := List.mem_range.mp hi
  unfold flip
  rw [List.map_map]
  refine List.map_congr_left fun j hj => ?_
  show dot (X.getD i []) (N.map fun r => r.getD j 0) = _
  have hl : (X.getD i []).length = N.length := by rw [hx.len hi, h]
  rw [dot_range (by rw [List.length_map]; exact hl), hl]
  congr 1
  refine List.map_congr_left fun k hk => ?_
  rw [getD_map (a0 := []) (List.mem_range.mp hk)]
theorem addM_by {X N : List (List Int)} (hx : Mx X) (hn : Mx N) (h : X.length = N.length) (h2 : wd X = wd N) : addM X N = byI X.length (wd X) fun i j => (X.getD i []).getD j 0 + (N.getD i []).getD j 0 := by
  unfold addM byI
  rw [zip_range [] [] (fun (a b : List Int) => (a.zip b).map fun w => w.1 + w.2) X N h]
  refine List.map_congr_left fun i hi => ?_
  have hi := List.mem_range.mp hi
  rw [zip_range 0 0 (fun x y => x + y) _ _ (by rw [hx.len hi, hn.len (by omega), h2]), hx.len hi]
theorem subM_by {X N : List (List Int)} (hx : Mx X) (hn : Mx N) (h : X.length = N.length) (h2 : wd X = wd N) : addM X (manyM N (-1)) = byI X.length (wd X) fun i j => (X.getD i []).getD j 0 - (N.getD i []).getD j 0 := by
  unfold addM byI
  have hl : (manyM N (-1)).length = N.length := List.length_map _
  rw [zip_range [] [] (fun (a b : List Int) => (a.zip b).map fun w => w.1 + w.2) X _ (by rw [hl]; exact h)]
  refine List.map_congr_left fun i hi => ?_
  have hi := List.mem_range.mp hi
  have e : (manyM N (-1)).getD i [] = (N.getD i []).map fun x => -1 * x := getD_map (by omega)
  rw [e, zip_range 0 0 (fun x y => x + y) _ _ (by rw [hx.len hi, List.length_map, hn.len (by omega), h2]), hx.len hi]
  refine List.map_congr_left fun j hj => ?_
  have hj := List.mem_range.mp hj
  rw [getD_map (a0 := 0) (by rw [hn.len (by omega)]; omega)]
  show _ = (X.getD i []).getD j 0 - (N.getD i []).getD j 0
  omega
theorem ledBy_by {v : List Int} {X : List (List Int)} (h : v.length = X.length) : ledBy v X = (List.range (wd X)).map fun j => ((List.range X.length).map fun i => v.getD i 0 * (X.getD i []).getD j 0).sum := by
  unfold ledBy
  refine List.map_congr_left fun j hj => ?_
  rw [zip_range 0 [] (fun (x : Int) (y : List Int) => x * y.getD j 0) v X h, h]
inductive Ar where
  | v (v : List Int) | m (n : List (List Int)) | k (k : Int)
def IsA (d : D) : Ar → Prop
  | .v v => IsV d v
  | .m n => IsM d n
  | .k k => d = .int k
/-- what is asked, and its answer -/
inductive Qu : Int → List (List Int) → Ar → D → Prop
  | q0 {X N : List (List Int)} (hx : Mx X) (hn : Mx N) (h : N.length = wd X) : Qu 0 X (.m N) (tM (mulM X N))
  | q1 {X : List (List Int)} {v : List Int} (hx : Mx X) (hv : Vx v) (h : v.length = X.length) : Qu 1 X (.v v) (tV (ledBy v X))
  | q2 {X : List (List Int)} {v : List Int} (hx : Mx X) (hv : Vx v) (h : v.length = wd X) : Qu 2 X (.v v) (tV (ontoM X v))
  | q3 {X N : List (List Int)} (hx : Mx X) (hn : Mx N) : Qu 3 X (.m N) (tM (flip X))
  | q4 {X N : List (List Int)} (hx : Mx X) (hn : Mx N) (h : X.length = N.length) (h2 : wd X = wd N) : Qu 4 X (.m N) (tM (addM X N))
  | q5 {X N : List (List Int)} (hx : Mx X) (hn : Mx N) (h : X.length = N.length) (h2 : wd X = wd N) : Qu 5 X (.m N) (tM (addM X (manyM N (-1))))
  | q6 {X : List (List Int)} {k : Int} (hx : Mx X) (h : -1000000 ≤ k ∧ k ≤ 1000000) : Qu 6 X (.k k) (tM (manyM X k))
  | q7 {X : List (List Int)} {n : Nat} (hx : Mx X) (h : 1 ≤ n ∧ n ≤ 8) : Qu 7 X (.k (n : Int)) (tM (unitM n))
  | q8 {X N : List (List Int)} (hx : Mx X) (hn : Mx N) (h : wd X = wd N) : Qu 8 X (.m N) (tM (X ++ N))
  | q9 {X N : List (List Int)} (hx : Mx X) (hn : Mx N) (h : X.length = N.length) : Qu 9 X (.m N) (tM (besM X N))
  | q10 {X : List (List Int)} {v : List Int} (hx : Mx X) (hv : Vx v) : Qu 10 X (.v v) (.int (gcdL v))
def F_asks (a x y r : D) : Prop := ∃ c X A, a = .int c ∧ IsM x X ∧ IsA y A ∧ Qu c X A r
theorem ok_law_near (W : Wd g) : FN g "_law_near" 9 (P3 F_asks) := by
  refine FN.mk3 W.t_law_near c_law_near (fun _ _ _ _ _ _ us hl => match us, hl with | [_, _, _], _ => rfl) (fun d e f r h => ?_)
  obtain ⟨c, X, A, rfl, hx, ha, hq⟩ := h
  cases hq with
  | @q0 X N _ _ h => exact SB.stop (ST.yes (ET.to (ET.cm (EV.nm 0) EV.int CS.eqI) rfl) (SB.one (ST.ret (EV.c2 (ok_product W) (EV.nm 1) (EV.nm 2) ⟨X, N, hx, ha, h.symm, rfl⟩))))
  | @q1 X v _ _ h => exact SB.cons (ST.no (ET.to (ET.cm (EV.nm 0) EV.int CS.eqI) rfl) SB.nil) (SB.stop (ST.yes (ET.to (ET.cm (EV.nm 0) EV.int CS.eqI) rfl) (SB.one (ST.ret (EV.c2 (ok_row_times W) (EV.nm 2) (EV.nm 1) ⟨v, X, ha, hx, h, rfl⟩)))))
  | @q2 X v _ _ h => exact SB.cons (ST.no (ET.to (ET.cm (EV.nm 0) EV.int CS.eqI) rfl) SB.nil) (SB.cons (ST.no (ET.to (ET.cm (EV.nm 0) EV.int CS.eqI) rfl) SB.nil) (SB.stop (ST.yes (ET.to (ET.cm (EV.nm 0) EV.int CS.eqI) rfl) (SB.one (ST.ret (EV.c2 (ok_times_column W) (EV.nm 1) (EV.nm 2) ⟨X, v, hx, ha, h.symm, rfl⟩))))))
  | @q3 X N _ _ => exact SB.cons (ST.no (ET.to (ET.cm (EV.nm 0) EV.int CS.eqI) rfl) SB.nil) (SB.cons (ST.no (ET.to (ET.cm (EV.nm 0) EV.int CS.eqI) rfl) SB.nil) (SB.cons (ST.no (ET.to (ET.cm (EV.nm 0) EV.int CS.eqI) rfl) SB.nil) (SB.stop (ST.yes (ET.to (ET.cm (EV.nm 0) EV.int CS.eqI) rfl) (SB.one (ST.ret (EV.c1 (ok_transposed W) (EV.nm 1) ⟨X, hx, rfl⟩)))))))
  | @q4 X N _ _ h h2 => exact SB.cons (ST.no (ET.to (ET.cm (EV.nm 0) EV.int CS.eqI) rfl) SB.nil) (SB.cons (ST.no (ET.to (ET.cm (EV.nm 0) EV.int CS.eqI) rfl) SB.nil) (SB.cons (ST.no (ET.to (ET.cm (EV.nm 0) EV.int CS.eqI) rfl) SB.nil) (SB.cons (ST.no (ET.to (ET.cm (EV.nm 0) EV.int CS.eqI) rfl) SB.nil) (SB.stop (ST.yes (ET.to (ET.cm (EV.nm 0) EV.int CS.eqI) rfl) (SB.one (ST.ret (EV.c2 (ok_plus W) (EV.nm 1) (EV.nm 2) ⟨X, N, hx, ha, h2, h, rfl⟩))))))))
  | @q5 X N _ _ h h2 => exact SB.cons (ST.no (ET.to (ET.cm (EV.nm 0) EV.int CS.eqI) rfl) SB.nil) (SB.cons (ST.no (ET.to (ET.cm (EV.nm 0) EV.int CS.eqI) rfl) SB.nil) (SB.cons (ST.no (ET.to (ET.cm (EV.nm 0) EV.int CS.eqI) rfl) SB.nil) (SB.cons (ST.no (ET.to (ET.cm (EV.nm 0) EV.int CS.eqI) rfl) SB.nil) (SB.cons (ST.no (ET.to (ET.cm (EV.nm 0) EV.int CS.eqI) rfl) SB.nil) (SB.stop (ST.yes (ET.to (ET.cm (EV.nm 0) EV.int CS.eqI) rfl) (SB.one (ST.ret (EV.c2 (ok_minus W) (EV.nm 1) (EV.nm 2) ⟨X, N, hx, ha, h2, h, rfl⟩)))))))))
  | @q6 X k _ h => exact SB.cons (ST.no (ET.to (ET.cm (EV.nm 0) EV.int CS.eqI) rfl) SB.nil) (SB.cons (ST.no (ET.to (ET.cm (EV.nm 0) EV.int CS.eqI) rfl) SB.nil) (SB.cons (ST.no (ET.to (ET.cm (EV.nm 0) EV.int CS.eqI) rfl) SB.nil) (SB.cons (ST.no (ET.to (ET.cm (EV.nm 0) EV.int CS.eqI) rfl) SB.nil) (SB.cons (ST.no (ET.to (ET.cm (EV.nm 0) EV.int CS.eqI) rfl) SB.nil) (SB.cons (ST.no (ET.to (ET.cm (EV.nm 0) EV.int CS.eqI) rfl) SB.nil) (SB.stop (ST.yes (ET.to (ET.cm (EV.nm 0) EV.int CS.eqI) rfl) (SB.one (ST.ret (EV.c2 (ok_scaled W) (EV.nm 1) (EV.nm 2) ⟨X, k, hx, ha, h, rfl⟩))))))))))
  | @q7 X n _ h => exact SB.cons (ST.no (ET.to (ET.cm (EV.nm 0) EV.int CS.eqI) rfl) SB.nil) (SB.cons (ST.no (ET.to (ET.cm (EV.nm 0) EV.int CS.eqI) rfl) SB.nil) (SB.cons (ST.no (ET.to (ET.cm (EV.nm 0) EV.int CS.eqI) rfl) SB.nil) (SB.cons (ST.no (ET.to (ET.cm (EV.nm 0) EV.int CS.eqI) rfl) SB.nil) (SB.cons (ST.no (ET.to (ET.cm (EV.nm 0) EV.int CS.eqI) rfl) SB.nil) (SB.cons (ST.no (ET.to (ET.cm (EV.nm 0) EV.int CS.eqI) rfl) SB.nil) (SB.cons (ST.no (ET.to (ET.cm (EV.nm 0) EV.int CS.eqI) rfl) SB.nil) (SB.stop (ST.yes (ET.to (ET.cm (EV.nm 0) EV.int CS.eqI) rfl) (SB.one (ST.ret (EV.c1 (ok_identity W) (EV.nm 2) ⟨n, h, ha, rfl⟩)))))))))))
  | @q8 X N _ _ h => exact SB.cons (ST.no (ET.to (ET.cm (EV.nm 0) EV.int CS.eqI) rfl) SB.nil) (SB.cons (ST.no (ET.to (ET.cm (EV.nm 0) EV.int CS.eqI) rfl) SB.nil) (SB.cons (ST.no (ET.to (ET.cm (EV.nm 0) EV.int CS.eqI) rfl) SB.nil) (SB.cons (ST.no (ET.to (ET.cm (EV.nm 0) EV.int CS.eqI) rfl) SB.nil) (SB.cons (ST.no (ET.to (ET.cm (EV.nm 0) EV.int CS.eqI) rfl) SB.nil) (SB.cons (ST.no (ET.to (ET.cm (EV.nm 0) EV.int CS.eqI) rfl) SB.nil) (SB.cons (ST.no (ET.to (ET.cm (EV.nm 0) EV.int CS.eqI) rfl) SB.nil) (SB.cons (ST.no (ET.to (ET.cm (EV.nm 0) EV.int CS.eqI) rfl) SB.nil) (SB.stop (ST.yes (ET.to (ET.cm (EV.nm 0) EV.int CS.eqI) rfl) (SB.one (ST.ret (EV.c2 (ok_stacked W) (EV.nm 1) (EV.nm 2) ⟨X, N, hx, ha, h, rfl⟩))))))))))))
  | @q9 X N _ _ h => exact SB.cons (ST.no (ET.to (ET.cm (EV.nm 0) EV.int CS.eqI) rfl) SB.nil) (SB.cons (ST.no (ET.to (ET.cm (EV.nm 0) EV.int CS.eqI) rfl) SB.nil) (SB.cons (ST.no (ET.to (ET.cm (EV.nm 0) EV.int CS.eqI) rfl) SB.nil) (SB.cons (ST.no (ET.to (ET.cm (EV.nm 0) EV.int CS.eqI) rfl) SB.nil) (SB.cons (ST.no (ET.to (ET.cm (EV.nm 0) EV.int CS.eqI) rfl) SB.nil) (SB.cons (ST.no (ET.to (ET.cm (EV.nm 0) EV.int CS.eqI) rfl) SB.nil) (SB.cons (ST.no (ET.to (ET.cm (EV.nm 0) EV.int CS.eqI) rfl) SB.nil) (SB.cons (ST.no (ET.to (ET.cm (EV.nm 0) EV.int CS.eqI) rfl) SB.nil) (SB.cons (ST.no (ET.to (ET.cm (EV.nm 0) EV.int CS.eqI) rfl) SB.nil) (SB.stop (ST.yes (ET.to (ET.cm (EV.nm 0) EV.int CS.eqI) rfl) (SB.one (ST.ret (EV.c2 (ok_beside W) (EV.nm 1) (EV.nm 2) ⟨X, N, hx, ha, h, rfl⟩)))))))))))))
  | @q10 X v _ _ => exact SB.cons (ST.no (ET.to (ET.cm (EV.nm 0) EV.int CS.eqI) rfl) SB.nil) (SB.cons (ST.no (ET.to (ET.cm (EV.nm 0) EV.int CS.eqI) rfl) SB.nil) (SB.cons (ST.no (ET.to (ET.cm (EV.nm 0) EV.int CS.eqI) rfl) SB.nil) (SB.cons (ST.no (ET.to (ET.cm (EV.nm 0) EV.int CS.eqI) rfl) SB.nil) (SB.cons (ST.no (ET.to (ET.cm (EV.nm 0) EV.int CS.eqI) rfl) SB.nil) (SB.cons (ST.no (ET.to (ET.cm (EV.nm 0) EV.int CS.eqI) rfl) SB.nil) (SB.cons (ST.no (ET.to (ET.cm (EV.nm 0) EV.int CS.eqI) rfl) SB.nil) (SB.cons (ST.no (ET.to (ET.cm (EV.nm 0) EV.int CS.eqI) rfl) SB.nil) (SB.cons (ST.no (ET.to (ET.cm (EV.nm 0) EV.int CS.eqI) rfl) SB.nil) (SB.cons (ST.no (ET.to (ET.cm (EV.nm 0) EV.int CS.eqI) rfl) SB.nil) (SB.one (ST.ret (EV.c1 (ok_divisor W) (EV.nm 2) ⟨v, ha, rfl⟩))))))))))))
end
/-! ### own tables -/
section
variable {g : Pg}
theorem FN.mk3J {st : Stmt} {N : List Str} {x y z u : Str} {k : Nat} {F : D → D → D → D → Prop} (T : TxtF g x st) (S : FnScope N [y, z, u] (defScope st))
    (hb : ∀ (kV doc pm : Value) (an : Option Addr) (cdv ct : Value) (us : List Value), us.length = 3 → bindArgs (PySem.W.fnOf x x (defArgs st) (defBody st) (defScope st) .none kV doc pm an cdv ct) ⟨us, []⟩ = pure ([y, z, u].zip us))
    (body : ∀ d e f r, F d e f r → ∃ J, SB (mkC g N st k) (defBody st) (pad N [.dat d, .dat e, .dat f]) [] (.rt (.dat r) J)) : FN g x (k + 1) (P3 F) :=
  FN.mkJ T S hb (fun os M o M' h => by obtain ⟨d, e, f, r, rfl, _⟩ := h; rfl) (fun os M o M' h => by
    obtain ⟨d, e, f, r, rfl, rfl, rfl, rfl, h⟩ := h
    exact ⟨Nat.le_refl _, True.intro, LowM.nil, body d e f r h⟩)
abbrev tb : List Stmt := defBody s_law_table
def bodyOf : Stmt → List Stmt
  | .For _ _ b _ _ => b
  | _ => []
abbrev tbF : List Stmt := (bodyOf (tb.getD 3 (.Pass ⟨0, 0, 0, 0⟩))).drop 1
abbrev tE (c : Int) (x y : D) (i l : O) : List O := [.dat (.int c), .dat x, .dat y, .adr 0, i, .no, l, .no, .no]
theorem table_for (W : Wd g) {c : Int} {x y : D} {X : List (List Int)} {j : O} (hx : IsM x X) (Acc : Nat → List D)
    (step : ∀ i, i < X.length → ∀ e, seqD e = some ((X.getD i []).map .int) → SB (mkC g n_law_table s_law_table 0) tbF (tE c x y (.dat (.int (i : Int))) (.dat e)) [some ((Acc i).map .dat)] (.nx (tE c x y (.dat (.int (i : Int))) (.dat e)) [some ((Acc (i + 1)).map .dat)])) :
    ST (mkC g n_law_table s_law_table 0) (tb.getD 3 (.Pass ⟨0, 0, 0, 0⟩)) [.dat (.int c), .dat x, .dat y, .adr 0, j, .no, .no, .no, .no] [some ((Acc 0).map .dat)] (.nx (tE c x y .no .no) [some ((Acc X.length).map .dat)]) := by
  have hl := isM_len hx
  have h8 := hx.1.l8
  refine ST.forN 4 (E_ := fun n => tE c x y .no .no) (M_ := fun n => [some ((Acc n).map .dat)]) (n := ((X.length : Nat) : Int).toNat) (EI.rng1 (EV.len (EV.nm 1) hl W.b.len) W.b.range (by omega)) ?_ rfl (fun _ _ => True.intro) c_law_table.nd (fun i hi => ?_)
  · exact Fg.cons (Fg.cons (Fg.cons (Fg.cons (Fg.no Fg.refl))))
  · have hi' : i < X.length := by omega
    obtain ⟨e, h1, h2⟩ := isM_ix hx hi'
    refine ⟨_, ?_, SB.cons (ST.set 6 (EV.ix (EV.nm 1) (EV.nm 4) (show ixD x (0 + (i : Int)) = some e by rw [Int.zero_add]; exact h1)) c_law_table.nd) (show SB _ tbF [_, _, _, _, .dat (.int (0 + (i : Int))), _, .dat e, _, _] _ _ by rw [Int.zero_add]; exact step i hi' e h2)⟩
    exact Fg.cons (Fg.cons (Fg.cons (Fg.cons (Fg.no (Fg.cons (Fg.no Fg.refl))))))
theorem accS {R : List (List Int)} {i : Nat} (hi : i < R.length) {d : D} (hd : d = tV (R.getD i [])) : ([some (((R.take i).map tV).map O.dat ++ [O.dat d])] : Mem) = [some (((R.take (i + 1)).map tV).map O.dat)] := by
  rw [List.take_succ_eq_append_getElem hi, List.map_append, List.map_append, hd, List.getD_eq_getElem?_getD, List.getElem?_eq_getElem hi]
  rfl
theorem accZ {R : List (List Int)} {i : Nat} (hl : R.length < 100000) : (((R.take i).map tV).map O.dat).length < 100000 := by
  rw [List.length_map, List.length_map, List.length_take]
  omega
theorem byI_get {n w i : Nat} {f : Nat → Nat → Int} (hi : i < n) : tV ((byI n w f).getD i []) = .tup ((List.range w).map fun j => .int (f i j)) := by
  unfold byI
  rw [getD_map (a0 := 0) (by rw [List.length_range]; exact hi), ← tV_map]
  congr 3
  rw [List.getD_eq_getElem?_getD, List.getElem?_range hi]
  rfl
theorem byI_len {n w : Nat} {f : Nat → Nat → Int} : (byI n w f).length = n := by
  unfold byI
  rw [List.length_map, List.length_range]
theorem accI {n w i : Nat} {f : Nat → Nat → Int} (hi : i < n) : ([some ((((byI n w f).take i).map tV).map O.dat ++ [O.dat (.tup ((List.range w).map fun j => .int (f i j)))])] : Mem) = [some ((((byI n w f).take (i + 1)).map tV).map O.dat)] := accS (by rw [byI_len]; exact hi) (byI_get hi).symm
theorem toN (n : Nat) : ((n : Nat) : Int).toNat = n := by omega

theorem isM_pairs {d : D} {m : List (List Int)} (h : IsM d m) : ∃ ps : List (D × List Int), seqD d = some (ps.map Prod.fst) ∧ m = ps.map Prod.snd ∧ ∀ p ∈ ps, seqD p.1 = some (p.2.map .int) := by
  have hh := h.2
  clear h
  obtain ⟨ds, hd, hp⟩ := hh
  suffices ∃ ps : List (D × List Int), ds = ps.map Prod.fst ∧ m = ps.map Prod.snd ∧ ∀ p ∈ ps, seqD p.1 = some (p.2.map .int) by
    obtain ⟨ps, h1, h2, h3⟩ := this
    exact ⟨ps, by rw [hd, h1], h2, h3⟩
  clear hd
  induction hp with
  | nil => exact ⟨[], rfl, rfl, fun p hp => by simp at hp⟩
  | @cons e r ds m h _ ih =>
    obtain ⟨ps, h1, h2, h3⟩ := ih
    refine ⟨(e, r) :: ps, by rw [h1]; rfl, by rw [h2]; rfl, fun p hp => ?_⟩
    rcases List.mem_cons.mp hp with rfl | hp
    · exact h
    · exact h3 p hp
theorem unit_by (n : Nat) : unitM n = byI n n fun i j => if decide (((i : Nat) : Int) = ((j : Nat) : Int)) then 1 else 0 := by
  unfold unitM byI
  refine List.map_congr_left fun i _ => List.map_congr_left fun j _ => ?_
  show (if j = i then (1 : Int) else 0) = if decide (((i : Nat) : Int) = ((j : Nat) : Int)) then 1 else 0
  by_cases h : j = i
  · subst h; simp
  · rw [if_neg h, if_neg]; simp; omega
theorem flip_by (X : List (List Int)) : flip X = byI (wd X) X.length fun j i => (X.getD i []).getD j 0 := by
  unfold flip byI
  exact List.map_congr_left fun j _ => map_range [] (fun (r : List Int) => r.getD j 0) X
theorem endT {R : List (List Int)} {n : Nat} (h : R.length = n) : O.dat (.tup ((R.take n).map tV)) = .dat (tM R) := by
  rw [List.take_of_length_le (by omega)]
theorem ok_law_table (W : Wd g) : FN g "_law_table" 1 (P3 fun a x y r => ∃ c X A, a = .int c ∧ IsM x X ∧ IsA y A ∧ Qu c X A r ∧ c ≠ 1 ∧ c ≠ 2 ∧ c ≠ 10) := by
  refine FN.mk3J W.t_law_table c_law_table (fun _ _ _ _ _ _ us hl => match us, hl with | [_, _, _], _ => rfl) (fun d x y r h => ?_)
  obtain ⟨c, X, A, rfl, hx, ha, hq, n1, n2, n10⟩ := h
  have hxl := hx.1.l8
  have hxw := hx.1.w8
  cases hq with
  | @q1 X v _ _ h => exact absurd rfl n1
  | @q2 X v _ _ h => exact absurd rfl n2
  | @q10 X v _ _ => exact absurd rfl n10
  | @q0 X N _ _ h =>
    have hn : IsM y N := ha
    have hnl := hn.1.l8
    have hnw := hn.1.w8
    obtain ⟨e0, g0, g1⟩ := isM_ix hn hn.1.z
    have g2 : lenD e0 = some (wd N) := by rw [wd_get]; exact isV_len g1
    rw [mulM_by hx.1 hn.1 h]
    refine ⟨_, SB.cons (ST.set 3 (EV.cel EA.nil (by decide)) c_law_table.nd) (SB.cons (ST.no (ET.to (ET.cm (EV.nm 0) EV.int CS.eqI) rfl) SB.nil) (SB.cons (ST.no (ET.to (ET.cm (EV.nm 0) EV.int CS.eqI) rfl) SB.nil) (SB.cons (table_for W hx (fun i => ((byI X.length (wd N) fun i j => ((List.range N.length).map fun k => (X.getD i []).getD k 0 * (N.getD k []).getD j 0).sum).take i).map tV) (fun i hi e he => ?_)) (SB.cons (ST.no (ET.to (ET.cm (EV.nm 0) EV.int CS.eqI) rfl) SB.nil) (SB.one (ST.ret (EV.to (EV.tupleC (EV.nm 3) rfl W.b.tuple) ?_)))))))⟩
    · refine SB.cons (ST.to (ST.yes (ET.to (ET.cm (EV.nm 0) EV.int CS.eqI) rfl) (SB.one (ST.exp (EV.append (n := 0) (ps := (((byI X.length (wd N) fun i j => ((List.range N.length).map fun k => (X.getD i []).getD k 0 * (N.getD k []).getD j 0).sum).take i).map tV).map O.dat) (EV.nm 3) (EV.tuple (LC.ev (LC.lR 5 (j := ((wd N : Nat) : Int)) (own := [("j", 5)]) (by rfl) c_law_table.nd rfl (EV.len (EV.ix (EV.nm 2) EV.int g0) g2 W.b.len) W.b.range (Nat.le_refl _) OkM.refl (by omega) (fun j hj M => ?_))) rfl W.b.tuple) rfl rfl (accZ (by rw [byI_len]; omega)))))) (congrArg (Out.nx _) (accI hi))) (SB.cons (ST.no (ET.to (ET.cm (EV.nm 0) EV.int CS.eqI) rfl) SB.nil) (SB.cons (ST.no (ET.to (ET.cm (EV.nm 0) EV.int CS.eqI) rfl) SB.nil) (SB.cons (ST.no (ET.to (ET.cm (EV.nm 0) EV.int CS.eqI) rfl) SB.nil) (SB.cons (ST.no (ET.to (ET.cm (EV.nm 0) EV.int CS.eqI) rfl) SB.nil) (SB.cons (ST.no (ET.to (ET.cm (EV.nm 0) EV.int CS.eqI) rfl) SB.nil) (SB.nil))))))
      show EV _ _ _ _ (.dat (.int ((List.range N.length).map fun k => (X.getD i []).getD k 0 * (N.getD k []).getD j 0).sum)) _
      refine EV.sum ?_ W.b.sum
      rw [List.map_map]
      refine LC.ev (LC.lR 7 (j := ((N.length : Nat) : Int)) (own := [("k", 7)]) (by rfl) c_law_table.nd rfl (EV.len (EV.nm 2) (isM_len hn) W.b.len) W.b.range (Nat.le_refl _) OkM.refl (by omega) (fun k hk M => ?_))
      have hk' : k < N.length := hk
      have hj' : j < wd N := hj
      obtain ⟨ek, h1, h2⟩ := isM_ix hn hk'
      exact EV.mul (EV.ix (EV.nm 6) (EV.nm 7) (isV_ix he (by rw [hx.1.len hi]; omega))) (EV.ix (EV.ix (EV.nm 2) (EV.nm 7) h1) (EV.nm 5) (isV_ix h2 (by rw [hn.1.len hk']; exact hj'))) (num_ok (hx.1.at hi (by omega)))
    · exact endT byI_len
  | @q3 X N _ _ =>
    obtain ⟨e0, g0, g1⟩ := isM_ix hx hx.1.z
    have g2 : lenD e0 = some (wd X) := by rw [wd_get]; exact isV_len g1
    obtain ⟨ps, p1, p2, p3⟩ := isM_pairs hx
    refine ⟨_, SB.cons (ST.set 3 (EV.cel EA.nil (by decide)) c_law_table.nd) (SB.cons (ST.no (ET.to (ET.cm (EV.nm 0) EV.int CS.eqI) rfl) SB.nil) (SB.cons (ST.yes (ET.to (ET.cm (EV.nm 0) EV.int CS.eqI) rfl) (SB.one (ST.forN 5 (n := ((wd X : Nat) : Int).toNat) (E_ := fun _ => [.dat (.int 3), .dat x, .dat y, .adr 0, .no, .no, .no, .no, .no]) (M_ := fun i => [some ((((flip X).take i).map tV).map .dat)]) (EI.rng1 (EV.len (EV.ix (EV.nm 1) EV.int g0) g2 W.b.len) W.b.range (by omega)) Fg.refl rfl (fun _ _ => True.intro) c_law_table.nd (fun i hi => ?_)))) (SB.cons (table_for W hx (fun _ => ((flip X).take (wd X)).map tV) (fun i hi e he => SB.cons (ST.no (ET.to (ET.cm (EV.nm 0) EV.int CS.eqI) rfl) SB.nil) (SB.cons (ST.no (ET.to (ET.cm (EV.nm 0) EV.int CS.eqI) rfl) SB.nil) (SB.cons (ST.no (ET.to (ET.cm (EV.nm 0) EV.int CS.eqI) rfl) SB.nil) (SB.cons (ST.no (ET.to (ET.cm (EV.nm 0) EV.int CS.eqI) rfl) SB.nil) (SB.cons (ST.no (ET.to (ET.cm (EV.nm 0) EV.int CS.eqI) rfl) SB.nil) (SB.cons (ST.no (ET.to (ET.cm (EV.nm 0) EV.int CS.eqI) rfl) SB.nil) (SB.nil)))))))) (SB.cons (ST.no (ET.to (ET.cm (EV.nm 0) EV.int CS.eqI) rfl) SB.nil) (SB.one (ST.ret (EV.to (EV.tupleC (EV.nm 3) rfl W.b.tuple) ?_)))))))⟩
    · have hi' : i < wd X := hi
      refine ⟨_, ?_, SB.one (ST.to (ST.exp (EV.append (n := 0) (ps := (((flip X).take i).map tV).map O.dat) (EV.nm 3) (EV.tuple (LC.ev (LC.lM 6 (xs := ps) (f := Prod.fst) (g := fun p => .int (p.2.getD i 0)) (own := [("line", 6)]) (by rfl) c_law_table.nd rfl (EV.nm 1) p1 (Nat.le_refl _) OkM.refl ?_ (fun p hp M => ?_))) rfl W.b.tuple) rfl rfl (accZ (by rw [flip_length]; omega)))) (congrArg (Out.nx _) (accS (by rw [flip_length]; exact hi') ?_)))⟩
      · exact Fg.cons (Fg.cons (Fg.cons (Fg.cons (Fg.cons (Fg.no Fg.refl)))))
      · have : ps.length = X.length := by rw [p2, List.length_map]
        omega
      · show EV _ _ _ _ (.dat (.int (p.2.getD i 0))) _
        have hr : p.2 ∈ X := by rw [p2]; exact List.mem_map_of_mem hp
        exact EV.ix (EV.nm 6) (EV.nm 5) (show ixD p.1 (0 + (i : Int)) = _ by rw [Int.zero_add]; exact isV_ix (p3 p hp) (by rw [hx.1.rect _ hr]; exact hi'))
      · unfold flip
        rw [getD_map (a0 := 0) (by rw [List.length_range]; exact hi')]
        rw [show (List.range (wd X)).getD i 0 = i by rw [List.getD_eq_getElem?_getD, List.getElem?_range hi']; rfl]
        rw [tV_map]
        congr 1
        conv => rhs; rw [p2]
        rw [List.map_map]
        rfl
    · exact endT flip_length
  | @q4 X N _ _ h h2 =>
    have hn : IsM y N := ha
    rw [addM_by hx.1 hn.1 h h2]
    refine ⟨_, SB.cons (ST.set 3 (EV.cel EA.nil (by decide)) c_law_table.nd) (SB.cons (ST.no (ET.to (ET.cm (EV.nm 0) EV.int CS.eqI) rfl) SB.nil) (SB.cons (ST.no (ET.to (ET.cm (EV.nm 0) EV.int CS.eqI) rfl) SB.nil) (SB.cons (table_for W hx (fun i => ((byI X.length (wd X) fun i j => (X.getD i []).getD j 0 + (N.getD i []).getD j 0).take i).map tV) (fun i hi e he => ?_)) (SB.cons (ST.no (ET.to (ET.cm (EV.nm 0) EV.int CS.eqI) rfl) SB.nil) (SB.one (ST.ret (EV.to (EV.tupleC (EV.nm 3) rfl W.b.tuple) ?_)))))))⟩
    · obtain ⟨ei, h3, h4⟩ := isM_ix hn (show i < N.length by omega)
      refine SB.cons (ST.no (ET.to (ET.cm (EV.nm 0) EV.int CS.eqI) rfl) SB.nil) (SB.cons (ST.to (ST.yes (ET.to (ET.cm (EV.nm 0) EV.int CS.eqI) rfl) (SB.one (ST.exp (EV.append (n := 0) (ps := (((byI X.length (wd X) fun i j => (X.getD i []).getD j 0 + (N.getD i []).getD j 0).take i).map tV).map O.dat) (EV.nm 3) (EV.tuple (LC.ev (LC.lR 5 (j := ((wd X : Nat) : Int)) (own := [("j", 5)]) (by rfl) c_law_table.nd rfl (EV.len (EV.nm 6) (by rw [isV_len he, hx.1.len hi]) W.b.len) W.b.range (Nat.le_refl _) OkM.refl (by omega) (fun j hj M => ?_))) rfl W.b.tuple) rfl rfl (accZ (by rw [byI_len]; omega)))))) (congrArg (Out.nx _) (accI hi))) (SB.cons (ST.no (ET.to (ET.cm (EV.nm 0) EV.int CS.eqI) rfl) SB.nil) (SB.cons (ST.no (ET.to (ET.cm (EV.nm 0) EV.int CS.eqI) rfl) SB.nil) (SB.cons (ST.no (ET.to (ET.cm (EV.nm 0) EV.int CS.eqI) rfl) SB.nil) (SB.cons (ST.no (ET.to (ET.cm (EV.nm 0) EV.int CS.eqI) rfl) SB.nil) (SB.nil))))))
      have hj' : j < wd X := hj
      exact EV.add (EV.ix (EV.nm 6) (EV.nm 5) (isV_ix he (by rw [hx.1.len hi]; exact hj'))) (EV.ix (EV.ix (EV.nm 2) (EV.nm 4) h3) (EV.nm 5) (isV_ix h4 (by rw [hn.1.len (by omega)]; omega)))
    · exact endT byI_len
  | @q5 X N _ _ h h2 =>
    have hn : IsM y N := ha
    rw [subM_by hx.1 hn.1 h h2]
    refine ⟨_, SB.cons (ST.set 3 (EV.cel EA.nil (by decide)) c_law_table.nd) (SB.cons (ST.no (ET.to (ET.cm (EV.nm 0) EV.int CS.eqI) rfl) SB.nil) (SB.cons (ST.no (ET.to (ET.cm (EV.nm 0) EV.int CS.eqI) rfl) SB.nil) (SB.cons (table_for W hx (fun i => ((byI X.length (wd X) fun i j => (X.getD i []).getD j 0 - (N.getD i []).getD j 0).take i).map tV) (fun i hi e he => ?_)) (SB.cons (ST.no (ET.to (ET.cm (EV.nm 0) EV.int CS.eqI) rfl) SB.nil) (SB.one (ST.ret (EV.to (EV.tupleC (EV.nm 3) rfl W.b.tuple) ?_)))))))⟩
    · obtain ⟨ei, h3, h4⟩ := isM_ix hn (show i < N.length by omega)
      refine SB.cons (ST.no (ET.to (ET.cm (EV.nm 0) EV.int CS.eqI) rfl) SB.nil) (SB.cons (ST.no (ET.to (ET.cm (EV.nm 0) EV.int CS.eqI) rfl) SB.nil) (SB.cons (ST.to (ST.yes (ET.to (ET.cm (EV.nm 0) EV.int CS.eqI) rfl) (SB.one (ST.exp (EV.append (n := 0) (ps := (((byI X.length (wd X) fun i j => (X.getD i []).getD j 0 - (N.getD i []).getD j 0).take i).map tV).map O.dat) (EV.nm 3) (EV.tuple (LC.ev (LC.lR 5 (j := ((wd X : Nat) : Int)) (own := [("j", 5)]) (by rfl) c_law_table.nd rfl (EV.len (EV.nm 6) (by rw [isV_len he, hx.1.len hi]) W.b.len) W.b.range (Nat.le_refl _) OkM.refl (by omega) (fun j hj M => ?_))) rfl W.b.tuple) rfl rfl (accZ (by rw [byI_len]; omega)))))) (congrArg (Out.nx _) (accI hi))) (SB.cons (ST.no (ET.to (ET.cm (EV.nm 0) EV.int CS.eqI) rfl) SB.nil) (SB.cons (ST.no (ET.to (ET.cm (EV.nm 0) EV.int CS.eqI) rfl) SB.nil) (SB.cons (ST.no (ET.to (ET.cm (EV.nm 0) EV.int CS.eqI) rfl) SB.nil) (SB.nil))))))
      have hj' : j < wd X := hj
      exact EV.sub (EV.ix (EV.nm 6) (EV.nm 5) (isV_ix he (by rw [hx.1.len hi]; exact hj'))) (EV.ix (EV.ix (EV.nm 2) (EV.nm 4) h3) (EV.nm 5) (isV_ix h4 (by rw [hn.1.len (by omega)]; omega)))
    · exact endT byI_len
  | @q6 X k _ h =>
    have hk : y = .int k := ha
    subst hk
    refine ⟨_, SB.cons (ST.set 3 (EV.cel EA.nil (by decide)) c_law_table.nd) (SB.cons (ST.no (ET.to (ET.cm (EV.nm 0) EV.int CS.eqI) rfl) SB.nil) (SB.cons (ST.no (ET.to (ET.cm (EV.nm 0) EV.int CS.eqI) rfl) SB.nil) (SB.cons (table_for W hx (fun i => ((manyM X k).take i).map tV) (fun i hi e he => ?_)) (SB.cons (ST.no (ET.to (ET.cm (EV.nm 0) EV.int CS.eqI) rfl) SB.nil) (SB.one (ST.ret (EV.to (EV.tupleC (EV.nm 3) rfl W.b.tuple) ?_)))))))⟩
    · exact SB.cons (ST.no (ET.to (ET.cm (EV.nm 0) EV.int CS.eqI) rfl) SB.nil) (SB.cons (ST.no (ET.to (ET.cm (EV.nm 0) EV.int CS.eqI) rfl) SB.nil) (SB.cons (ST.no (ET.to (ET.cm (EV.nm 0) EV.int CS.eqI) rfl) SB.nil) (SB.cons (ST.to (ST.yes (ET.to (ET.cm (EV.nm 0) EV.int CS.eqI) rfl) (SB.one (ST.exp (EV.append (n := 0) (ps := (((manyM X k).take i).map tV).map O.dat) (EV.nm 3) (EV.tuple (LC.ev (LC.lM 8 (xs := X.getD i []) (f := D.int) (g := fun z => .int (k * z)) (own := [("z", 8)]) (by rfl) c_law_table.nd rfl (EV.nm 6) he (Nat.le_refl _) OkM.refl (by rw [hx.1.len hi]; omega) (fun z hz M => EV.mul (EV.nm 2) (EV.nm 8) (num_ok h)))) rfl W.b.tuple) rfl rfl (accZ (by rw [show (manyM X k).length = X.length from List.length_map _]; omega)))))) (congrArg (Out.nx _) (accS (by rw [show (manyM X k).length = X.length from List.length_map _]; exact hi) (by rw [show (manyM X k).getD i [] = (X.getD i []).map fun x => k * x from getD_map hi, tV_map])))) (SB.cons (ST.no (ET.to (ET.cm (EV.nm 0) EV.int CS.eqI) rfl) SB.nil) (SB.cons (ST.no (ET.to (ET.cm (EV.nm 0) EV.int CS.eqI) rfl) SB.nil) (SB.nil))))))
    · exact endT (List.length_map _)
  | @q7 X n _ h =>
    have hk : y = .int (n : Int) := ha
    subst hk
    rw [unit_by]
    refine ⟨_, SB.cons (ST.set 3 (EV.cel EA.nil (by decide)) c_law_table.nd) (SB.cons (ST.yes (ET.to (ET.cm (EV.nm 0) EV.int CS.eqI) rfl) (SB.one (ST.forN 4 (n := ((n : Nat) : Int).toNat) (E_ := fun _ => [.dat (.int 7), .dat x, .dat (.int (n : Int)), .adr 0, .no, .no, .no, .no, .no]) (M_ := fun i => [some ((((byI n n fun i j => if decide (((i : Nat) : Int) = ((j : Nat) : Int)) then 1 else 0).take i).map tV).map .dat)]) (EI.rng1 (EV.nm 2) W.b.range (by omega)) Fg.refl rfl (fun _ _ => True.intro) c_law_table.nd (fun i hi => ?_)))) (SB.cons (ST.no (ET.to (ET.cm (EV.nm 0) EV.int CS.eqI) rfl) SB.nil) (SB.cons (table_for W hx (fun _ => ((byI n n fun i j => if decide (((i : Nat) : Int) = ((j : Nat) : Int)) then 1 else 0).take n).map tV) (fun i hi e he => SB.cons (ST.no (ET.to (ET.cm (EV.nm 0) EV.int CS.eqI) rfl) SB.nil) (SB.cons (ST.no (ET.to (ET.cm (EV.nm 0) EV.int CS.eqI) rfl) SB.nil) (SB.cons (ST.no (ET.to (ET.cm (EV.nm 0) EV.int CS.eqI) rfl) SB.nil) (SB.cons (ST.no (ET.to (ET.cm (EV.nm 0) EV.int CS.eqI) rfl) SB.nil) (SB.cons (ST.no (ET.to (ET.cm (EV.nm 0) EV.int CS.eqI) rfl) SB.nil) (SB.cons (ST.no (ET.to (ET.cm (EV.nm 0) EV.int CS.eqI) rfl) SB.nil) (SB.nil)))))))) (SB.cons (ST.no (ET.to (ET.cm (EV.nm 0) EV.int CS.eqI) rfl) SB.nil) (SB.one (ST.ret (EV.to (EV.tupleC (EV.nm 3) rfl W.b.tuple) (endT byI_len))))))))⟩
    have hi' : i < n := hi
    refine ⟨_, ?_, SB.one (ST.to (ST.exp (EV.append (n := 0) (ps := (((byI n n fun i j => if decide (((i : Nat) : Int) = ((j : Nat) : Int)) then 1 else 0).take i).map tV).map O.dat) (EV.nm 3) (EV.tuple (LC.ev (LC.lR 5 (j := ((n : Nat) : Int)) (own := [("j", 5)]) (by rfl) c_law_table.nd rfl (EV.nm 2) W.b.range (Nat.le_refl _) OkM.refl (by omega) (fun j hj M => ?_))) rfl W.b.tuple) rfl rfl (accZ (by rw [byI_len]; omega)))) (congrArg (Out.nx _) (accI hi')))⟩
    · exact Fg.cons (Fg.cons (Fg.cons (Fg.cons (Fg.no Fg.refl))))
    · refine EV.to (EV.intB (EV.cm (EV.nm 4) (EV.nm 5) CS.eqI) W.b.int) ?_
      rw [Int.zero_add]
  | @q8 X N _ _ h =>
    have hn : IsM y N := ha
    have hnl := hn.1.l8
    obtain ⟨ps, p1, p2, p3⟩ := isM_pairs hn
    refine ⟨_, SB.cons (ST.set 3 (EV.cel EA.nil (by decide)) c_law_table.nd) (SB.cons (ST.no (ET.to (ET.cm (EV.nm 0) EV.int CS.eqI) rfl) SB.nil) (SB.cons (ST.no (ET.to (ET.cm (EV.nm 0) EV.int CS.eqI) rfl) SB.nil) (SB.cons (table_for W hx (fun i => (X.take i).map tV) (fun i hi e he => ?_)) (SB.fz (jj := 3) (nn := 0) (ds := (X.take X.length).map tV) rfl rfl (SB.cons (ST.yes (ET.to (ET.cm (EV.nm 0) EV.int CS.eqI) rfl) (SB.one (ST.set 3 (EV.bin (EV.nm 3) (LC.ev (LC.lM 6 (xs := ps) (f := Prod.fst) (g := fun p => tV p.2) (own := [("line", 6)]) (by rfl) c_law_table.nd rfl (EV.nm 2) p1 (Nat.le_refl _) OkM.refl ?_ (fun p hp M => EV.tuple (EV.nm 6) (p3 p hp) W.b.tuple))) (BS.addL ?_)) c_law_table.nd))) (SB.one (ST.ret (EV.to (EV.tuple (EV.nm 3) rfl W.b.tuple) ?_))))))))⟩
    · exact SB.cons (ST.no (ET.to (ET.cm (EV.nm 0) EV.int CS.eqI) rfl) SB.nil) (SB.cons (ST.no (ET.to (ET.cm (EV.nm 0) EV.int CS.eqI) rfl) SB.nil) (SB.cons (ST.no (ET.to (ET.cm (EV.nm 0) EV.int CS.eqI) rfl) SB.nil) (SB.cons (ST.no (ET.to (ET.cm (EV.nm 0) EV.int CS.eqI) rfl) SB.nil) (SB.cons (ST.to (ST.yes (ET.to (ET.cm (EV.nm 0) EV.int CS.eqI) rfl) (SB.one (ST.exp (EV.append (n := 0) (ps := (((X).take i).map tV).map O.dat) (EV.nm 3) (EV.tuple (EV.nm 6) he W.b.tuple) rfl rfl (accZ (by omega)))))) (congrArg (Out.nx _) (accS hi rfl))) (SB.cons (ST.no (ET.to (ET.cm (EV.nm 0) EV.int CS.eqI) rfl) SB.nil) (SB.nil))))))
    · have : ps.length = N.length := by rw [p2, List.length_map]
      omega
    · have : ps.length = N.length := by rw [p2, List.length_map]
      rw [List.length_map, List.length_take, List.length_map]
      omega
    · rw [List.take_length]
      show O.dat (.tup (X.map tV ++ ps.map fun p => tV p.2)) = O.dat (.tup ((X ++ N).map tV))
      rw [List.map_append, p2, List.map_map]
      rfl
  | @q9 X N _ _ h =>
    have hn : IsM y N := ha
    have hnw := hn.1.w8
    have hbl : (besM X N).length = X.length := by
      show (List.map _ _).length = _
      rw [List.length_map, List.length_zip]
      omega
    refine ⟨_, SB.cons (ST.set 3 (EV.cel EA.nil (by decide)) c_law_table.nd) (SB.cons (ST.no (ET.to (ET.cm (EV.nm 0) EV.int CS.eqI) rfl) SB.nil) (SB.cons (ST.no (ET.to (ET.cm (EV.nm 0) EV.int CS.eqI) rfl) SB.nil) (SB.cons (table_for W hx (fun i => ((besM X N).take i).map tV) (fun i hi e he => ?_)) (SB.cons (ST.no (ET.to (ET.cm (EV.nm 0) EV.int CS.eqI) rfl) SB.nil) (SB.one (ST.ret (EV.to (EV.tupleC (EV.nm 3) rfl W.b.tuple) ?_)))))))⟩
    · obtain ⟨ei, h3, h4⟩ := isM_ix hn (show i < N.length by omega)
      refine SB.cons (ST.no (ET.to (ET.cm (EV.nm 0) EV.int CS.eqI) rfl) SB.nil) (SB.cons (ST.no (ET.to (ET.cm (EV.nm 0) EV.int CS.eqI) rfl) SB.nil) (SB.cons (ST.no (ET.to (ET.cm (EV.nm 0) EV.int CS.eqI) rfl) SB.nil) (SB.cons (ST.no (ET.to (ET.cm (EV.nm 0) EV.int CS.eqI) rfl) SB.nil) (SB.cons (ST.no (ET.to (ET.cm (EV.nm 0) EV.int CS.eqI) rfl) SB.nil) (SB.cons (ST.to (ST.yes (ET.to (ET.cm (EV.nm 0) EV.int CS.eqI) rfl) (SB.one (ST.exp (EV.append (n := 0) (ps := (((besM X N).take i).map tV).map O.dat) (EV.nm 3) (EV.bin (EV.tuple (EV.nm 6) he W.b.tuple) (EV.tuple (EV.ix (EV.nm 2) (EV.nm 4) h3) h4 W.b.tuple) (BS.addT ?_)) rfl rfl (accZ (by omega)))))) (congrArg (Out.nx _) (accS (by omega) ?_))) (SB.nil))))))
      · rw [List.length_map, List.length_map, hx.1.len hi, hn.1.len (by omega)]
        omega
      · unfold besM
        rw [zip_range [] [] (fun (a b : List Int) => a ++ b) X N h, getD_map (a0 := 0) (by rw [List.length_range]; exact hi)]
        rw [show (List.range X.length).getD i 0 = i by rw [List.getD_eq_getElem?_getD, List.getElem?_range hi]; rfl]
        show D.tup _ = D.tup _
        rw [List.map_append]
    · exact endT hbl
theorem ok_law_due (W : Wd g) : FN g "_law_due" 2 (P3 F_asks) := by
  refine FN.mk3 W.t_law_due c_law_due (fun _ _ _ _ _ _ us hl => match us, hl with | [_, _, _], _ => rfl) (fun d x y r h => ?_)
  obtain ⟨c, X, A, rfl, hx, ha, hq⟩ := h
  have hxl := hx.1.l8
  have hxw := hx.1.w8
  have tab : ∀ {E : List O}, E = [.dat (.int c), .dat x, .dat y, .no, .no, .no] → c ≠ 1 → c ≠ 2 → c ≠ 10 → SB (mkC g n_law_due s_law_due 1) (defBody s_law_due) E [] (.rt (.dat r) []) := fun {E} he n1 n2 n10 => by
    subst he
    exact SB.cons (ST.no (ET.to (ET.cm (EV.nm 0) EV.int CS.eqI) (decide_eq_false n1)) SB.nil) (SB.cons (ST.no (ET.to (ET.cm (EV.nm 0) EV.int CS.eqI) (decide_eq_false n2)) SB.nil) (SB.cons (ST.no (ET.to (ET.cm (EV.nm 0) EV.int CS.eqI) (decide_eq_false n10)) SB.nil) (SB.one (ST.ret (EV.c3 (ok_law_table W) (EV.nm 0) (EV.nm 1) (EV.nm 2) ⟨c, X, A, rfl, hx, ha, hq, n1, n2, n10⟩)))))
  by_cases n1 : c = 1
  · subst n1
    cases hq with
    | @q1 X v _ _ h =>
      have hv : IsV y v := ha
      obtain ⟨e0, g0, g1⟩ := isM_ix hx hx.1.z
      have g2 : lenD e0 = some (wd X) := by rw [wd_get]; exact isV_len g1
      rw [ledBy_by h, tV_map]
      refine SB.stop (ST.yes (ET.to (ET.cm (EV.nm 0) EV.int CS.eqI) rfl) (SB.one (ST.ret (EV.tuple (LC.ev (LC.lR 3 (j := ((wd X : Nat) : Int)) (own := [("j", 3)]) (by rfl) c_law_due.nd rfl (EV.len (EV.ix (EV.nm 1) EV.int g0) g2 W.b.len) W.b.range (Nat.le_refl _) OkM.refl (by omega) (fun j hj M => ?_))) rfl W.b.tuple))))
      show EV _ _ _ _ (.dat (.int ((List.range X.length).map fun i => v.getD i 0 * (X.getD i []).getD j 0).sum)) _
      refine EV.sum ?_ W.b.sum
      rw [List.map_map]
      refine LC.ev (LC.lR 4 (j := ((X.length : Nat) : Int)) (own := [("i", 4)]) (by rfl) c_law_due.nd rfl (EV.len (EV.nm 1) (isM_len hx) W.b.len) W.b.range (Nat.le_refl _) OkM.refl (by omega) (fun i hi M => ?_))
      have hi' : i < X.length := hi
      have hj' : j < wd X := hj
      obtain ⟨ei, h1, h2⟩ := isM_ix hx hi'
      exact EV.mul (EV.ix (EV.nm 2) (EV.nm 4) (isV_ix hv.2 (by omega))) (EV.ix (EV.ix (EV.nm 1) (EV.nm 4) h1) (EV.nm 3) (isV_ix h2 (by rw [hx.1.len hi']; exact hj'))) (num_ok (hv.1.num _ (mem_getD (by omega))))
  by_cases n2 : c = 2
  · subst n2
    cases hq with
    | @q2 X v _ _ h =>
      have hv : IsV y v := ha
      have hvl := hv.1.l8
      obtain ⟨ps, p1, p2, p3⟩ := isM_pairs hx
      have e : tV (ontoM X v) = .tup (ps.map fun p => .int (dot p.2 v)) := by
        unfold ontoM
        rw [tV_map]
        conv => lhs; rw [p2]
        rw [List.map_map]
        rfl
      rw [e]
      refine SB.cons (ST.no (ET.to (ET.cm (EV.nm 0) EV.int CS.eqI) rfl) SB.nil) (SB.stop (ST.yes (ET.to (ET.cm (EV.nm 0) EV.int CS.eqI) rfl) (SB.one (ST.ret (EV.tuple (LC.ev (LC.lM 5 (xs := ps) (f := Prod.fst) (g := fun p => .int (dot p.2 v)) (own := [("line", 5)]) (by rfl) c_law_due.nd rfl (EV.nm 1) p1 (Nat.le_refl _) OkM.refl ?_ (fun p hp M => ?_))) rfl W.b.tuple)))))
      · have : ps.length = X.length := by rw [p2, List.length_map]
        omega
      · have hr : p.2 ∈ X := by rw [p2]; exact List.mem_map_of_mem hp
        have hl : p.2.length = v.length := by rw [hx.1.rect _ hr, h]
        show EV _ _ _ _ (.dat (.int (dot p.2 v))) _
        rw [dot_range hl]
        refine EV.sum ?_ W.b.sum
        rw [List.map_map, hl]
        refine LC.ev (LC.lR 3 (j := ((v.length : Nat) : Int)) (own := [("j", 3)]) (by rfl) c_law_due.nd rfl (EV.len (EV.nm 2) (isV_len hv.2) W.b.len) W.b.range (Nat.le_refl _) OkM.refl (by omega) (fun j hj M => ?_))
        have hj' : j < v.length := hj
        exact EV.mul (EV.ix (EV.nm 5) (EV.nm 3) (isV_ix (p3 p hp) (by omega))) (EV.ix (EV.nm 2) (EV.nm 3) (isV_ix hv.2 hj')) (num_ok (hx.1.num _ hr _ (mem_getD (by omega))))
  by_cases n10 : c = 10
  · subst n10
    cases hq with
    | @q10 X v _ _ =>
      exact SB.cons (ST.no (ET.to (ET.cm (EV.nm 0) EV.int CS.eqI) rfl) SB.nil) (SB.cons (ST.no (ET.to (ET.cm (EV.nm 0) EV.int CS.eqI) rfl) SB.nil) (SB.stop (ST.yes (ET.to (ET.cm (EV.nm 0) EV.int CS.eqI) rfl) (SB.one (ST.ret (EV.c1 (ok_law_gcd W) (EV.nm 2) ⟨v, ha, rfl⟩))))))
  exact tab rfl n1 n2 n10
end
/-! ### numbers are drawn -/
section
variable {g : Pg}
def thenOf : Stmt → List Stmt
  | .If _ y _ _ => y
  | _ => []
def ifOf : Stmt → Expr
  | .If c _ _ _ => c
  | _ => .Constant .none 0 ⟨0, 0, 0, 0⟩
def dl : Nat → List Int → List Int
  | 0, ns => ns
  | i + 1, ns => (dl i ns).dropLast
abbrev LA : List Int := [0, 1, -1, 2, -3, 4, 9, -7, 12, 30]
abbrev LB : List Int := [1000000, -1000000, 999999, -999983]
abbrev L6 : List Int := [0, 1, -1, 3, -2, 1000000, -1000000, 17]
abbrev L10 : List Int := [0, 1, 2, 6, 35, -4]
def pick (L : List Int) (i : Int) : Int := L.getD i.toNat 0
theorem pick_at {L : List Int} {i : Int} (h : 0 ≤ i ∧ i < L.length) : atI (L.map D.int) i = some (.int (pick L i)) := by
  obtain ⟨n, rfl⟩ : ∃ n : Nat, i = (n : Int) := ⟨i.toNat, by omega⟩
  refine atI_nat ?_
  rw [List.getElem?_map]
  have hn : n < L.length := by omega
  show _ = some (D.int (L.getD n 0))
  rw [getD_of_lt hn]
  rfl
theorem pick_mem {L : List Int} {i : Int} (h : 0 ≤ i ∧ i < L.length) : pick L i ∈ L := mem_getD (by omega)
def rollF (ns : List Int) (m : Nat) : List Int := (List.range m).map fun i => pick LA (tk (dl i ns) 10)
def numsF (ns : List Int) (m : Nat) (w : Bool) : List Int × List Int :=
  if w = true then if tk (dl m ns) 2 = 0 then ((rollF ns m).set (tk (dl (m + 2) ns) m).toNat (pick LB (tk (dl (m + 1) ns) 4)), dl (m + 3) ns) else (rollF ns m, dl (m + 1) ns) else (rollF ns m, dl m ns)
theorem numsF_len {ns : List Int} {m : Nat} {w : Bool} : (numsF ns m w).1.length = m := by
  unfold numsF
  have h : (rollF ns m).length = m := by
    unfold rollF
    rw [List.length_map, List.length_range]
  split
  · split
    · rw [List.length_set, h]
    · exact h
  · exact h
theorem numsF_num {ns : List Int} {m : Nat} {w : Bool} : ∀ x ∈ (numsF ns m w).1, -1000000 ≤ x ∧ x ≤ 1000000 := by
  have hA : ∀ x ∈ LA, -1000000 ≤ x ∧ x ≤ 1000000 := by decide
  have hB : ∀ x ∈ LB, -1000000 ≤ x ∧ x ≤ 1000000 := by decide
  have h : ∀ x ∈ rollF ns m, -1000000 ≤ x ∧ x ≤ 1000000 := fun x hx => by
    obtain ⟨i, _, rfl⟩ := List.mem_map.mp hx
    exact hA _ (pick_mem (tk_pos (by decide)))
  unfold numsF
  split
  · split
    · intro x hx
      rcases List.mem_or_eq_of_mem_set hx with hx | rfl
      · exact h x hx
      · exact hB _ (pick_mem (tk_pos (by decide)))
    · exact h
  · exact h
theorem ixN_of {n k : Nat} (h : k < n) : ixN n (k : Int) = some k := by
  unfold ixN
  rw [if_pos (by omega), if_pos (by omega)]
  simp
def numsR : Rel := fun os M o M' => ∃ (ns : List Int) (m : Nat) (w : Bool), (1 ≤ m ∧ m ≤ 8) ∧ os = [.adr 0, .dat (.int (m : Int)), .dat (.bl w)] ∧ M = [rowC ns] ∧ o = .dat (lV (numsF ns m w).1) ∧ M' = [rowC (numsF ns m w).2]
theorem lowR {n : Nat} {ns : List Int} : LowM n [rowC ns] := LowM.dat LowM.nil
theorem ok_law_numbers (W : Wd g) : FN g "_law_numbers" 2 numsR := by
  refine FN.mkJ W.t_law_numbers c_law_numbers (fun _ _ _ _ _ _ us hl => match us, hl with | [_, _, _], _ => rfl) (fun os M o M' h => by obtain ⟨ns, m, w, _, rfl, _⟩ := h; rfl) (fun os M o M' h => ?_)
  obtain ⟨ns, m, w, hm, rfl, rfl, rfl, rfl⟩ := h
  refine ⟨Nat.le_refl _, True.intro, lowR, [none], ?_⟩
  have T := ok_law_take W
  have h1 : ST (mkC g n_law_numbers s_law_numbers 1) ((defBody s_law_numbers).getD 0 (.Pass ⟨0, 0, 0, 0⟩)) (pad n_law_numbers [.adr 0, .dat (.int (m : Int)), .dat (.bl w)]) [rowC ns] (.nx [.adr 0, .dat (.int (m : Int)), .dat (.bl w), .adr 1, .no] [rowC (dl m ns), rowC (rollF ns m)]) := by
    refine ST.to (LC.set 3 (LC.lRSC 4 (j := ((m : Nat) : Int)) (M1 := [rowC ns]) (v := fun i => .int (pick LA (tk (dl i ns) 10))) (M_ := fun i => [rowC (dl i ns)]) (own := [("j", 4)]) (by rfl) c_law_numbers.nd rfl (EV.nm 1) W.b.range rfl (fun _ _ => rfl) (by omega) (fun i hi c => ?_)) rfl rfl (fun env he => sw_true (by rw [he]; rfl) (by rw [he]; rfl) (by rfl) (by rfl))) ?_
    · exact EV.ix (EV.lst (ds := LA.map D.int) (EA.cons EV.int (EA.cons EV.int (EA.cons (EV.neg EV.int) (EA.cons EV.int (EA.cons (EV.neg EV.int) (EA.cons EV.int (EA.cons EV.int (EA.cons (EV.neg EV.int) (EA.cons EV.int (EA.cons EV.int EA.nil)))))))))) (by decide)) (ev_tk (ns := dl i ns) T (EV.nm 0) EV.int rfl (by decide)) (pick_at (tk_pos (by decide)))
    · have e : (rollF ns m).map D.int = (List.range m).map fun i => D.int (pick LA (tk (dl i ns) 10)) := by
        unfold rollF
        rw [List.map_map]
        rfl
      show Out.nx _ _ = Out.nx _ [_, some (((rollF ns m).map D.int).map O.dat)]
      rw [e]
      rfl
  refine SB.cons h1 ?_
  have hlen : ((rollF ns m).map D.int).map O.dat = ((rollF ns m).map D.int).map O.dat := rfl
  cases w with
  | false =>
    refine SB.cons (ST.no (ET.to (EW.et (EW.and (k1 := false) (k2 := true) (ET.val (EV.nm 2)) (fun z => nomatch z) (fun _ => rfl))) rfl) SB.nil) (SB.fz (jj := 3) (nn := 1) (ds := (rollF ns m).map D.int) rfl rfl (SB.one (ST.to (ST.ret (EV.nm 3)) ?_)))
    rfl
  | true =>
    have hc : ET (mkC g n_law_numbers s_law_numbers 1) (ifOf ((defBody s_law_numbers).getD 1 (.Pass ⟨0, 0, 0, 0⟩))) [.adr 0, .dat (.int (m : Int)), .dat (.bl true), .adr 1, .no] [rowC (dl m ns), rowC (rollF ns m)] (decide (tk (dl m ns) 2 = 0)) [rowC (dl (m + 1) ns), rowC (rollF ns m)] :=
      ET.to (EW.et (EW.and (k1 := true) (ET.val (EV.nm 2)) (fun _ => EW.and1 (ET.cm (ev_tk (ns := dl m ns) T (EV.nm 0) EV.int rfl (by decide)) EV.int CS.eqI)) (fun z => nomatch z))) (by rw [Bool.true_and])
    by_cases h2 : tk (dl m ns) 2 = 0
    · have e : numsF ns m true = ((rollF ns m).set (tk (dl (m + 2) ns) m).toNat (pick LB (tk (dl (m + 1) ns) 4)), dl (m + 3) ns) := by
        unfold numsF
        rw [if_pos rfl, if_pos h2]
      rw [e]
      have hp := tk_pos (ns := dl (m + 2) ns) (b := (m : Int)) (by omega)
      obtain ⟨k, hk⟩ : ∃ k : Nat, tk (dl (m + 2) ns) m = (k : Int) := ⟨(tk (dl (m + 2) ns) m).toNat, by omega⟩
      have hj : ixN (((rollF ns m).map D.int).map O.dat).length (tk (dl (m + 2) ns) m) = some (tk (dl (m + 2) ns) m).toNat := by
        rw [hk, show ((k : Nat) : Int).toNat = k by omega]
        refine ixN_of ?_
        rw [List.length_map, List.length_map]
        unfold rollF
        rw [List.length_map, List.length_range]
        omega
      refine SB.cons (ST.yes (ET.to hc (decide_eq_true h2)) (SB.one (ST.asg (EV.ix (EV.lst (ds := LB.map D.int) (EA.cons EV.int (EA.cons (EV.neg EV.int) (EA.cons EV.int (EA.cons (EV.neg EV.int) EA.nil)))) (by decide)) (ev_tk (ns := dl (m + 1) ns) T (EV.nm 0) EV.int rfl (by decide)) (pick_at (tk_pos (by decide)))) (EG.sub (n := 1) (ps := ((rollF ns m).map D.int).map O.dat) (EV.nm 3) (ev_tk (ns := dl (m + 2) ns) T (EV.nm 0) (EV.nm 1) rfl (by omega)) rfl hj)))) ?_
      refine SB.fz (jj := 3) (nn := 1) (ds := ((rollF ns m).set (tk (dl (m + 2) ns) m).toNat (pick LB (tk (dl (m + 1) ns) 4))).map D.int) rfl ?_ (SB.one (ST.ret (EV.nm 3)))
      rw [List.map_set, List.map_set]
      rfl
    · have e : numsF ns m true = (rollF ns m, dl (m + 1) ns) := by
        unfold numsF
        rw [if_pos rfl, if_neg h2]
      rw [e]
      exact SB.cons (ST.no (ET.to hc (decide_eq_false h2)) SB.nil) (SB.fz (jj := 3) (nn := 1) (ds := (rollF ns m).map D.int) rfl rfl (SB.one (ST.ret (EV.nm 3))))
theorem EV.call1' {C : Cc} {E : List O} {M M1 M' : Mem} {e : Expr} {es : List Expr} {p pos : Pos} {x : Str} {d : D} {R : Rel} {kf n : Nat} {ds cs cs' : List D} (F : FN C.g x kf R) (ha : EA C (e :: es) E M (.adr n :: ds.map .dat) M1) (hc : M1[n]? = some (some (cs.map .dat))) (hR : R (.adr 0 :: ds.map .dat) [some (cs.map .dat)] (.dat d) [some (cs'.map .dat)]) (hk : Nat.ble kf C.k = true := by rfl)
    (hg : C.sc.names.lookup x = some .globalImplicit := by rfl) (hdb : (x == ("__debug__" : Str)) = false := by decide) (he : ∀ env, starEach (e :: es) env = (false, eval e env) :: starEach es env := by intro _; rfl) (hpl : ∀ env, (backTo pos (starEach es env)).any (·.1) = false := by intro _; rfl) (hM : M' = M1.set n (some (cs'.map .dat)) := by rfl) :
    EV C (.Call (.Name x p) (e :: es) [] pos) E M (.dat d) M' := by
  subst hM
  exact EV.call1 F ha hc hR hk hg hdb he hpl
def rsF (ns : List Int) (m : Nat) (w : Bool) : Nat → List Int
  | 0 => ns
  | i + 1 => (numsF (rsF ns m w i) m w).2
def drawF (ns : List Int) (n m : Nat) (w : Bool) : List (List Int) × List Int := ((List.range n).map fun i => (numsF (rsF ns m w i) m w).1, rsF ns m w n)
theorem drawF_mx {ns : List Int} {n m : Nat} {w : Bool} (hn : 1 ≤ n ∧ n ≤ 8) (hm : 1 ≤ m ∧ m ≤ 8) : Mx (drawF ns n m w).1 ∧ (drawF ns n m w).1.length = n ∧ wd (drawF ns n m w).1 = m := by
  have hl : (drawF ns n m w).1.length = n := by
    show (List.map _ _).length = n
    rw [List.length_map, List.length_range]
  have hr : ∀ r ∈ (drawF ns n m w).1, r.length = m := fun r hr => by
    obtain ⟨i, _, rfl⟩ := List.mem_map.mp hr
    exact numsF_len
  have hw : wd (drawF ns n m w).1 = m := by
    rw [wd_get]
    exact hr _ (mem_getD (by omega))
  refine ⟨⟨by omega, by omega, by omega, by omega, fun r h => by rw [hw]; exact hr r h, fun r h x hx => ?_⟩, hl, hw⟩
  obtain ⟨i, _, rfl⟩ := List.mem_map.mp h
  exact numsF_num x hx
def drawnR : Rel := fun os M o M' => ∃ (ns : List Int) (n m : Nat) (w : Bool), (1 ≤ n ∧ n ≤ 8) ∧ (1 ≤ m ∧ m ≤ 8) ∧ os = [.adr 0, .dat (.int (n : Int)), .dat (.int (m : Int)), .dat (.bl w)] ∧ M = [rowC ns] ∧ o = .dat (lM (drawF ns n m w).1) ∧ M' = [rowC (drawF ns n m w).2]
theorem ok_law_drawn (W : Wd g) : FN g "_law_drawn" 3 drawnR := by
  refine FN.mk W.t_law_drawn c_law_drawn (fun _ _ _ _ _ _ us hl => match us, hl with | [_, _, _, _], _ => rfl) (fun os M o M' h => by obtain ⟨ns, n, m, w, _, _, rfl, _⟩ := h; rfl) (fun os M o M' h => ?_)
  obtain ⟨ns, n, m, w, hn, hm, rfl, rfl, rfl, rfl⟩ := h
  have e : lM (drawF ns n m w).1 = .lst ((List.range n).map fun i => lV (numsF (rsF ns m w i) m w).1) := by
    show D.lst _ = D.lst _
    unfold drawF
    rw [List.map_map]
    rfl
  rw [e]
  exact SB.one (ST.ret (LC.ev (LC.lRS 4 (j := ((n : Nat) : Int)) (M1 := [rowC ns]) (v := fun i => lV (numsF (rsF ns m w i) m w).1) (M_ := fun i => [rowC (rsF ns m w i)]) (own := [("i", 4)]) (by rfl) c_law_drawn.nd rfl (EV.nm 1) W.b.range rfl (fun _ _ => rfl) (Nat.le_refl _) (OkM.dat OkM.nil) (by omega) (fun i hi c => EV.call1' (n := 0) (ds := [.int (m : Int), .bl w]) (cs := (rsF ns m w i).map D.int) (cs' := (rsF ns m w (i + 1)).map D.int) (ok_law_numbers W) (EA.cons (EV.nm 0) (EA.cons (EV.nm 2) (EA.cons (EV.nm 3) EA.nil))) rfl ⟨_, m, w, hm, rfl, rfl, rfl, rfl⟩))))
end
/-! ### what fits -/
section
variable {g : Pg}
abbrev poolC (P : List (List (List Int))) : Option (List O) := some ((P.map lM).map O.dat)
def b1F (c : Int) (X y : List (List Int)) : Bool := decide (c = 0) && decide (((y.length : Nat) : Int) = ((wd X : Nat) : Int)) || (inI c [4, 5] && (decide (((y.length : Nat) : Int) = ((X.length : Nat) : Int)) && decide (((wd y : Nat) : Int) = ((wd X : Nat) : Int))))
def b2F (c : Int) (X y : List (List Int)) : Bool := decide (c = 8) && decide (((wd y : Nat) : Int) = ((wd X : Nat) : Int)) || (decide (c = 9) && decide (((y.length : Nat) : Int) = ((X.length : Nat) : Int)))
def nearOf (c : Int) (X y : List (List Int)) : List (List (List Int)) := (if b1F c X y = true then [y] else []) ++ if b2F c X y = true then [y] else []
def nearF (c : Int) (X : List (List Int)) (P : List (List (List Int))) : List (List (List Int)) := P.flatMap (nearOf c X)
def tensF (ns : List Int) : List Int := (List.range (1 + tk (dl 1 ns) 8).toNat).map fun i => pick L10 (tk ns 6) * (tk (dl (2 + i) ns) 41 - 20)
def sizeA (c : Int) (X : List (List Int)) (p : Int) : Int := if c = 0 then (wd X : Nat) else if c = 8 then p else (X.length : Nat)
def sizeB (c : Int) (X : List (List Int)) (p : Int) : Int := if c = 0 then p else if c = 8 then (wd X : Nat) else if c = 9 then p else (wd X : Nat)
def ns1F (c : Int) (X : List (List Int)) (P : List (List (List Int))) (ns : List Int) : List Int := if 1 < (nearF c X P).length then ns.dropLast else ns
inductive Fi : Int → List (List Int) → List (List (List Int)) → Bool → List Int → Ar → List Int → Prop
  | f1 {X : List (List Int)} {P : List (List (List Int))} {w : Bool} {ns : List Int} : Fi 1 X P w ns (.v (numsF ns X.length w).1) (numsF ns X.length w).2
  | f2 {X : List (List Int)} {P : List (List (List Int))} {w : Bool} {ns : List Int} : Fi 2 X P w ns (.v (numsF ns (wd X) w).1) (numsF ns (wd X) w).2
  | f6 {X : List (List Int)} {P : List (List (List Int))} {w : Bool} {ns : List Int} : Fi 6 X P w ns (.k (pick L6 (tk ns 8))) (dl 1 ns)
  | f7 {X : List (List Int)} {P : List (List (List Int))} {w : Bool} {ns : List Int} : Fi 7 X P w ns (.k (1 + tk ns 8)) (dl 1 ns)
  | f10 {X : List (List Int)} {P : List (List (List Int))} {w : Bool} {ns : List Int} : Fi 10 X P w ns (.v (tensF ns)) (dl (2 + (1 + tk (dl 1 ns) 8).toNat) ns)
  | near {c : Int} {X : List (List Int)} {P : List (List (List Int))} {w : Bool} {ns : List Int} (hc : c ≠ 1 ∧ c ≠ 2 ∧ c ≠ 6 ∧ c ≠ 7 ∧ c ≠ 10) (h : 1 < (nearF c X P).length) (h2 : tk ns 2 = 0) : Fi c X P w ns (.m ((nearF c X P).getD (tk (dl 1 ns) (nearF c X P).length).toNat [])) (dl 2 ns)
  | fresh {c : Int} {X : List (List Int)} {P : List (List (List Int))} {w : Bool} {ns : List Int} {a b : Nat} (hc : c ≠ 1 ∧ c ≠ 2 ∧ c ≠ 6 ∧ c ≠ 7 ∧ c ≠ 10) (h : ¬ (1 < (nearF c X P).length ∧ tk ns 2 = 0)) (ha : sizeA c X (1 + tk (ns1F c X P ns) 4) = (a : Int)) (hb : sizeB c X (1 + tk (ns1F c X P ns) 4) = (b : Int)) (la : 1 ≤ a ∧ a ≤ 8) (lb : 1 ≤ b ∧ b ≤ 8) :
      Fi c X P w ns (.m (drawF (ns1F c X P ns).dropLast a b w).1) (drawF (ns1F c X P ns).dropLast a b w).2
def Ar.L : Ar → D
  | .v q => lV q
  | .m q => lM q
  | .k q => .int q
def Ar.T : Ar → D
  | .v q => tV q
  | .m q => tM q
  | .k q => .int q
def fitR : Rel := fun os M o M' => ∃ c x X P w ns A ns', IsM x X ∧ (∀ N ∈ P, Mx N) ∧ P.length < 40000 ∧ Fi c X P w ns A ns' ∧ os = [.adr 0, .dat (.int c), .dat x, .adr 1, .dat (.bl w)] ∧ M = [rowC ns, poolC P] ∧ o = .dat A.L ∧ M' = [rowC ns', poolC P]
theorem lowRP {n : Nat} {ns : List Int} {P : List (List (List Int))} : LowM n [rowC ns, poolC P] := LowM.dat (LowM.dat LowM.nil)
theorem okRP {ns ns' : List Int} {P : List (List (List Int))} : OkM [rowC ns, poolC P] [rowC ns', poolC P] := OkM.dat (OkM.dat OkM.nil)
theorem lM_ix {m : List (List Int)} (h : Mx m) : ixD (lM m) ((0 : Nat) : Int) = some (lV (m.getD 0 [])) := ix_lM h.z
theorem lM_w {m : List (List Int)} : lenD (lV (m.getD 0 [])) = some (wd m) := by rw [wd_get]; exact len_lV
theorem nearF_len {c : Int} {X : List (List Int)} : ∀ {P : List (List (List Int))}, (nearF c X P).length ≤ 2 * P.length
  | [] => Nat.le_refl _
  | y :: P => by
    have := nearF_len (c := c) (X := X) (P := P)
    show (nearOf c X y ++ nearF c X P).length ≤ _
    have h2 : (nearOf c X y).length ≤ 2 := by
      unfold nearOf
      split <;> split <;> simp
    rw [List.length_append, List.length_cons]
    omega
def fb : List Stmt := defBody s_law_fitting
theorem ok_law_fitting (W : Wd g) : FN g "_law_fitting" 4 fitR := by
  refine FN.mkJ W.t_law_fitting c_law_fitting (fun _ _ _ _ _ _ us hl => match us, hl with | [_, _, _, _, _], _ => rfl) (fun os M o M' h => by obtain ⟨c, x, X, P, w, ns, A, ns', _, _, _, _, rfl, _⟩ := h; rfl) (fun os M o M' h => ?_)
  obtain ⟨c, x, X, P, w, ns, A, ns', hx, hP, hPl, hf, rfl, rfl, rfl, rfl⟩ := h
  refine ⟨Nat.le_refl _, True.intro, lowRP, ?_⟩
  have T := ok_law_take W
  obtain ⟨e0, g0, g1⟩ := isM_ix hx hx.1.z
  have g2 : lenD e0 = some (wd X) := by rw [wd_get]; exact isV_len g1
  have hxl1 := hx.1.l1
  have hxl := hx.1.l8
  have hxw1 := hx.1.w1
  have hxw := hx.1.w8
  have two : ∀ {r : Out}, SB (mkC g n_law_fitting s_law_fitting 3) (fb.drop 2) [.adr 0, .dat (.int c), .dat x, .adr 1, .dat (.bl w), .dat (.int ((X.length : Nat) : Int)), .dat (.int ((wd X : Nat) : Int)), .no, .no, .no, .no, .no] [rowC ns, poolC P] r → SB (mkC g n_law_fitting s_law_fitting 3) fb (pad n_law_fitting [.adr 0, .dat (.int c), .dat x, .adr 1, .dat (.bl w)]) [rowC ns, poolC P] r := fun {r} h =>
    SB.cons (ST.set 5 (EV.len (EV.nm 2) (isM_len hx) W.b.len) c_law_fitting.nd) (SB.cons (ST.set 6 (EV.len (EV.ix (EV.nm 2) EV.int g0) g2 W.b.len) c_law_fitting.nd) h)
  have pick10 : ∀ q, 0 ≤ q ∧ q < 6 → -(2 ^ 64) < pick L10 q ∧ pick L10 q < 2 ^ 64 := fun q hq => by
    have hA : ∀ x ∈ L10, -(2 ^ 64 : Int) < x ∧ x < 2 ^ 64 := by decide
    exact hA _ (pick_mem hq)
  -- all that looks around in the pool
  have look : ∀ {r : Out}, (c ≠ 1 ∧ c ≠ 2 ∧ c ≠ 6 ∧ c ≠ 7 ∧ c ≠ 10) → SB (mkC g n_law_fitting s_law_fitting 3) (fb.drop 9) [.adr 0, .dat (.int c), .dat x, .adr 1, .dat (.bl w), .dat (.int ((X.length : Nat) : Int)), .dat (.int ((wd X : Nat) : Int)), .no, .adr 2, .no, .no, .no] [rowC ns, poolC P, some (((nearF c X P).map lM).map .dat)] r → SB (mkC g n_law_fitting s_law_fitting 3) fb (pad n_law_fitting [.adr 0, .dat (.int c), .dat x, .adr 1, .dat (.bl w)]) [rowC ns, poolC P] r := fun {r} hc h => by
    have hpl : ((P.map lM).map O.dat).length = P.length := by rw [List.length_map, List.length_map]
    refine two (SB.cons (ST.no (ET.to (ET.cm (EV.nm 1) EV.int CS.eqI) (decide_eq_false hc.1)) SB.nil) (SB.cons (ST.no (ET.to (ET.cm (EV.nm 1) EV.int CS.eqI) (decide_eq_false hc.2.1)) SB.nil) (SB.cons (ST.no (ET.to (ET.cm (EV.nm 1) EV.int CS.eqI) (decide_eq_false hc.2.2.1)) SB.nil) (SB.cons (ST.no (ET.to (ET.cm (EV.nm 1) EV.int CS.eqI) (decide_eq_false hc.2.2.2.1)) SB.nil) (SB.cons (ST.no (ET.to (ET.cm (EV.nm 1) EV.int CS.eqI) (decide_eq_false hc.2.2.2.2)) SB.nil) (SB.cons (ST.set 8 (EV.cel EA.nil (by decide)) c_law_fitting.nd) (SB.cons (ST.forN 9 (E_ := fun _ => [.adr 0, .dat (.int c), .dat x, .adr 1, .dat (.bl w), .dat (.int ((X.length : Nat) : Int)), .dat (.int ((wd X : Nat) : Int)), .no, .adr 2, .no, .no, .no]) (M_ := fun i => [rowC ns, poolC P, some (((nearF c X (P.take i)).map lM).map .dat)]) (EI.cell (n := 1) (ps := (P.map lM).map O.dat) (EV.nm 3) rfl) Fg.refl rfl (fun _ _ => rfl) c_law_fitting.nd (fun i hi => ?_)) (by rw [hpl, List.take_length]; exact h))))))))
    rw [hpl] at hi
    have hit : ((P.map lM).map O.dat).getD i .no = .dat (lM P[i]) := by
      rw [List.getD_eq_getElem?_getD, List.getElem?_map, List.getElem?_map, List.getElem?_eq_getElem hi]
      rfl
    rw [hit]
    have hy := hP P[i] (List.getElem_mem hi)
    have hacc : nearF c X (P.take (i + 1)) = nearF c X (P.take i) ++ nearOf c X P[i] := by
      unfold nearF
      rw [List.take_succ_eq_append_getElem hi, List.flatMap_append]
      simp
    have hz : (nearF c X (P.take i)).length < 80000 := by
      have := nearF_len (c := c) (X := X) (P := P.take i)
      rw [List.length_take] at this
      omega
    refine ⟨[.adr 0, .dat (.int c), .dat x, .adr 1, .dat (.bl w), .dat (.int ((X.length : Nat) : Int)), .dat (.int ((wd X : Nat) : Int)), .no, .adr 2, .dat (lM P[i]), .no, .no], ?_, ?_⟩
    · exact Fg.cons (Fg.cons (Fg.cons (Fg.cons (Fg.cons (Fg.cons (Fg.cons (Fg.cons (Fg.cons (Fg.no Fg.refl)))))))))
    · rw [hacc]
      refine SB.cons (E1 := [.adr 0, .dat (.int c), .dat x, .adr 1, .dat (.bl w), .dat (.int ((X.length : Nat) : Int)), .dat (.int ((wd X : Nat) : Int)), .no, .adr 2, .dat (lM P[i]), .no, .no]) (M1 := [rowC ns, poolC P, some (((nearF c X (P.take i) ++ if b1F c X P[i] = true then [P[i]] else []).map lM).map .dat)])
        (ST.ite (k := b1F c X P[i]) (EW.et (EW.or (EW.et (EW.and (ET.cm (EV.nm 1) EV.int CS.eqI) (fun _ => EW.and1 (ET.cm (EV.len (EV.nm 9) len_lM W.b.len) (EV.nm 6) CS.eqI)) (fun _ => rfl))) (fun _ => EW.or1 (EW.et (EW.and (ET.cm (EV.nm 1) (EV.lst (ds := ([4, 5] : List Int).map D.int) (EA.cons EV.int (EA.cons EV.int EA.nil)) (by decide)) CS.inI) (fun _ => EW.and (ET.cm (EV.len (EV.nm 9) len_lM W.b.len) (EV.nm 5) CS.eqI) (fun _ => EW.and1 (ET.cm (EV.len (EV.ix (EV.nm 9) EV.int (lM_ix hy)) lM_w W.b.len) (EV.nm 6) CS.eqI)) (fun _ => rfl)) (fun _ => rfl)))) (fun _ => rfl))) (fun hb => ?_) (fun hb => ?_)) (SB.one (ST.ite (k := b2F c X P[i]) (EW.et (EW.or (EW.et (EW.and (ET.cm (EV.nm 1) EV.int CS.eqI) (fun _ => EW.and1 (ET.cm (EV.len (EV.ix (EV.nm 9) EV.int (lM_ix hy)) lM_w W.b.len) (EV.nm 6) CS.eqI)) (fun _ => rfl))) (fun _ => EW.or1 (EW.et (EW.and (ET.cm (EV.nm 1) EV.int CS.eqI) (fun _ => EW.and1 (ET.cm (EV.len (EV.nm 9) len_lM W.b.len) (EV.nm 5) CS.eqI)) (fun _ => rfl)))) (fun _ => rfl))) (fun hb => ?_) (fun hb => ?_)))
      · refine SB.one (ST.to (ST.exp (EV.append (n := 2) (ps := ((nearF c X (P.take i)).map lM).map O.dat) (EV.nm 8) (EV.nm 9) rfl rfl (by rw [List.length_map, List.length_map]; omega))) ?_)
        rw [if_pos hb, List.map_append, List.map_append]
        rfl
      · rw [hb, if_neg (by decide), List.append_nil]
        exact SB.nil
      · refine SB.one (ST.to (ST.exp (EV.append (n := 2) (ps := ((nearF c X (P.take i) ++ if b1F c X P[i] = true then [P[i]] else []).map lM).map O.dat) (EV.nm 8) (EV.nm 9) rfl rfl (by rw [List.length_map, List.length_map, List.length_append]; split <;> simp <;> omega))) ?_)
        unfold nearOf
        rw [if_pos hb, ← List.append_assoc, List.map_append (l₂ := [P[i]]), List.map_append (l₂ := [P[i]].map lM)]
        rfl
      · unfold nearOf
        rw [hb, if_neg (show ¬ (false = true) by decide), List.append_nil]
        exact SB.nil
  have nl : (((nearF c X P).map lM).map O.dat).length = (nearF c X P).length := by rw [List.length_map, List.length_map]
  have test : ET (mkC g n_law_fitting s_law_fitting 3) (ifOf (fb.getD 9 (.Pass ⟨0, 0, 0, 0⟩))) [.adr 0, .dat (.int c), .dat x, .adr 1, .dat (.bl w), .dat (.int ((X.length : Nat) : Int)), .dat (.int ((wd X : Nat) : Int)), .no, .adr 2, .no, .no, .no] [rowC ns, poolC P, some (((nearF c X P).map lM).map .dat)] (decide (1 < (nearF c X P).length ∧ tk ns 2 = 0)) [rowC (ns1F c X P ns), poolC P, some (((nearF c X P).map lM).map .dat)] := by
    by_cases h1 : 1 < (nearF c X P).length
    · have e : ns1F c X P ns = ns.dropLast := if_pos h1
      rw [e]
      refine ET.to (EW.et (EW.and (k1 := true) (ET.to (ET.cm (EV.lenC (EV.nm 8) rfl W.b.len) EV.int CS.gtI) (decide_eq_true ?_)) (fun _ => EW.and1 (ET.cm (ev_tk (ns := ns) T (EV.nm 0) EV.int rfl (by decide)) EV.int CS.eqI)) (fun z => nomatch z))) ?_
      · rw [nl]
        omega
      · rw [Bool.true_and]
        by_cases h2 : tk ns 2 = 0
        · rw [decide_eq_true h2, decide_eq_true ⟨h1, h2⟩]
        · rw [decide_eq_false h2, decide_eq_false fun z => h2 z.2]
    · have e : ns1F c X P ns = ns := if_neg h1
      rw [e]
      refine ET.to (EW.et (EW.and (k1 := false) (k2 := true) (ET.to (ET.cm (EV.lenC (EV.nm 8) rfl W.b.len) EV.int CS.gtI) (decide_eq_false ?_)) (fun z => nomatch z) (fun _ => rfl))) ?_
      · rw [nl]
        omega
      · rw [decide_eq_false fun z => h1 z.1]
        rfl
  cases hf with
  | f1 => exact ⟨[], two (SB.stop (ST.yes (ET.to (ET.cm (EV.nm 1) EV.int CS.eqI) rfl) (SB.one (ST.ret (EV.call1' (n := 0) (ds := [.int ((X.length : Nat) : Int), .bl w]) (cs := ns.map D.int) (cs' := (numsF ns (X.length) w).2.map D.int) (ok_law_numbers W) (EA.cons (EV.nm 0) (EA.cons (EV.nm 5) (EA.cons (EV.nm 4) EA.nil))) rfl ⟨ns, X.length, w, by omega, rfl, rfl, rfl, rfl⟩)))))⟩
  | f2 => exact ⟨[], two (SB.cons (ST.no (ET.to (ET.cm (EV.nm 1) EV.int CS.eqI) rfl) SB.nil) (SB.stop (ST.yes (ET.to (ET.cm (EV.nm 1) EV.int CS.eqI) rfl) (SB.one (ST.ret (EV.call1' (n := 0) (ds := [.int ((wd X : Nat) : Int), .bl w]) (cs := ns.map D.int) (cs' := (numsF ns (wd X) w).2.map D.int) (ok_law_numbers W) (EA.cons (EV.nm 0) (EA.cons (EV.nm 6) (EA.cons (EV.nm 4) EA.nil))) rfl ⟨ns, wd X, w, by omega, rfl, rfl, rfl, rfl⟩))))))⟩
  | f6 => exact ⟨[], two (SB.cons (ST.no (ET.to (ET.cm (EV.nm 1) EV.int CS.eqI) rfl) SB.nil) (SB.cons (ST.no (ET.to (ET.cm (EV.nm 1) EV.int CS.eqI) rfl) SB.nil) (SB.stop (ST.yes (ET.to (ET.cm (EV.nm 1) EV.int CS.eqI) rfl) (SB.one (ST.ret (EV.ix (EV.lst (ds := L6.map D.int) (EA.cons EV.int (EA.cons EV.int (EA.cons (EV.neg EV.int) (EA.cons EV.int (EA.cons (EV.neg EV.int) (EA.cons EV.int (EA.cons (EV.neg EV.int) (EA.cons EV.int (EA.nil))))))))) (by decide)) (ev_tk (ns := ns) T (EV.nm 0) EV.int rfl (by decide)) (pick_at (tk_pos (by decide))))))))))⟩
  | f7 => exact ⟨[], two (SB.cons (ST.no (ET.to (ET.cm (EV.nm 1) EV.int CS.eqI) rfl) SB.nil) (SB.cons (ST.no (ET.to (ET.cm (EV.nm 1) EV.int CS.eqI) rfl) SB.nil) (SB.cons (ST.no (ET.to (ET.cm (EV.nm 1) EV.int CS.eqI) rfl) SB.nil) (SB.stop (ST.yes (ET.to (ET.cm (EV.nm 1) EV.int CS.eqI) rfl) (SB.one (ST.ret (EV.add EV.int (ev_tk (ns := ns) T (EV.nm 0) EV.int rfl (by decide))))))))))⟩
  | f10 =>
    refine ⟨[], two (SB.cons (ST.no (ET.to (ET.cm (EV.nm 1) EV.int CS.eqI) rfl) SB.nil) (SB.cons (ST.no (ET.to (ET.cm (EV.nm 1) EV.int CS.eqI) rfl) SB.nil) (SB.cons (ST.no (ET.to (ET.cm (EV.nm 1) EV.int CS.eqI) rfl) SB.nil) (SB.cons (ST.no (ET.to (ET.cm (EV.nm 1) EV.int CS.eqI) rfl) SB.nil) (SB.stop (ST.yes (ET.to (ET.cm (EV.nm 1) EV.int CS.eqI) rfl) (SB.cons (ST.set 7 (EV.ix (EV.lst (ds := L10.map D.int) (EA.cons EV.int (EA.cons EV.int (EA.cons EV.int (EA.cons EV.int (EA.cons EV.int (EA.cons (EV.neg EV.int) (EA.nil))))))) (by decide)) (ev_tk (ns := ns) (M' := [rowC (dl 1 ns), poolC P]) T (EV.nm 0) EV.int rfl (by decide)) (pick_at (tk_pos (by decide)))) c_law_fitting.nd) (SB.one (ST.ret (EV.to (LC.ev (LC.lRS 11 (j := 1 + tk (dl 1 ns) 8) (M1 := [rowC (dl 2 ns), poolC P]) (v := fun i => .int (pick L10 (tk ns 6) * (tk (dl (2 + i) ns) 41 - 20))) (M_ := fun i => [rowC (dl (2 + i) ns), poolC P]) (own := [("k", 11)]) (by rfl) c_law_fitting.nd rfl (EV.add EV.int (ev_tk (ns := dl 1 ns) T (EV.nm 0) EV.int rfl (by decide))) W.b.range rfl (fun _ _ => rfl) (Nat.le_refl _) ?_ ?_ (fun i hi c => ?_))) ?_))))))))))⟩
    · exact okRP
    · have := tk_pos (ns := dl 1 ns) (b := 8) (by decide)
      omega
    · exact EV.mulL (EV.nm 7) (EV.sub (ev_tk (ns := dl (2 + i) ns) T (EV.nm 0) EV.int rfl (by decide)) EV.int) (pick10 _ (tk_pos (by decide)))
    · unfold tensF
      show O.dat (.lst _) = O.dat (.lst _)
      rw [List.map_map]
      rfl
  | near hc h h2 =>
    refine ⟨[some (((nearF c X P).map lM).map .dat)], look hc (SB.stop (ST.yes (ET.to test (decide_eq_true ⟨h, h2⟩)) (SB.one (ST.ret ?_))))⟩
    have e : ns1F c X P ns = dl 1 ns := if_pos h
    rw [e]
    refine EV.ixC (n := 2) (ps := ((nearF c X P).map lM).map O.dat) (EV.nm 8) (ev_tk (ns := dl 1 ns) T (EV.nm 0) (EV.lenC (EV.nm 8) rfl W.b.len) rfl (by rw [nl]; omega)) rfl ?_
    have hp := tk_pos (ns := dl 1 ns) (b := ((nearF c X P).length : Int)) (by omega)
    rw [nl]
    obtain ⟨k, hk⟩ : ∃ k : Nat, tk (dl 1 ns) (nearF c X P).length = (k : Int) := ⟨(tk (dl 1 ns) (nearF c X P).length).toNat, by omega⟩
    rw [hk, show ((k : Nat) : Int).toNat = k by omega]
    refine atI_nat ?_
    rw [List.getElem?_map, List.getElem?_map, List.getElem?_eq_getElem (by omega), List.getD_eq_getElem?_getD, List.getElem?_eq_getElem (by omega)]
    rfl
  | @fresh _ _ _ _ _ a b hc h ha hb la lb =>
    refine ⟨[some (((nearF c X P).map lM).map .dat)], look hc (SB.cons (ST.no (ET.to test (decide_eq_false h)) SB.nil) (SB.cons (ST.set 10 (EV.add EV.int (ev_tk (ns := ns1F c X P ns) T (EV.nm 0) EV.int rfl (by decide))) c_law_fitting.nd) ?_))⟩
    show SB _ _ [.adr 0, .dat (.int c), .dat x, .adr 1, .dat (.bl w), .dat (.int ((X.length : Nat) : Int)), .dat (.int ((wd X : Nat) : Int)), .no, .adr 2, .no, .dat (.int (1 + tk (ns1F c X P ns) 4)), .no] [rowC (ns1F c X P ns).dropLast, poolC P, some (((nearF c X P).map lM).map .dat)] _
    by_cases h0 : c = 0
    · rw [sizeA, if_pos h0] at ha
      rw [sizeB, if_pos h0] at hb
      have ea : wd X = a := by omega
      subst ea
      rw [hb]
      exact SB.stop (ST.yes (ET.to (ET.cm (EV.nm 1) EV.int CS.eqI) (decide_eq_true h0)) (SB.one (ST.ret (EV.call1' (n := 0) (ds := [.int ((wd X : Nat) : Int), .int ((b : Nat) : Int), .bl w]) (cs := (ns1F c X P ns).dropLast.map D.int) (cs' := (drawF (ns1F c X P ns).dropLast (wd X) b w).2.map D.int) (ok_law_drawn W) (EA.cons (EV.nm 0) (EA.cons (EV.nm 6) (EA.cons (EV.nm 10) (EA.cons (EV.nm 4) EA.nil)))) rfl ⟨_, (wd X), b, w, la, lb, rfl, rfl, rfl, rfl⟩))))
    by_cases h8 : c = 8
    · rw [sizeA, if_neg h0, if_pos h8] at ha
      rw [sizeB, if_neg h0, if_pos h8] at hb
      have eb : wd X = b := by omega
      subst eb
      rw [ha]
      exact SB.cons (ST.no (ET.to (ET.cm (EV.nm 1) EV.int CS.eqI) (decide_eq_false h0)) SB.nil) (SB.stop (ST.yes (ET.to (ET.cm (EV.nm 1) EV.int CS.eqI) (decide_eq_true h8)) (SB.one (ST.ret (EV.call1' (n := 0) (ds := [.int ((a : Nat) : Int), .int ((wd X : Nat) : Int), .bl w]) (cs := (ns1F c X P ns).dropLast.map D.int) (cs' := (drawF (ns1F c X P ns).dropLast a (wd X) w).2.map D.int) (ok_law_drawn W) (EA.cons (EV.nm 0) (EA.cons (EV.nm 10) (EA.cons (EV.nm 6) (EA.cons (EV.nm 4) EA.nil)))) rfl ⟨_, a, wd X, w, la, lb, rfl, rfl, rfl, rfl⟩)))))
    by_cases h9 : c = 9
    · rw [sizeA, if_neg h0, if_neg h8] at ha
      rw [sizeB, if_neg h0, if_neg h8, if_pos h9] at hb
      have ea : X.length = a := by omega
      subst ea
      rw [hb]
      exact SB.cons (ST.no (ET.to (ET.cm (EV.nm 1) EV.int CS.eqI) (decide_eq_false h0)) SB.nil) (SB.cons (ST.no (ET.to (ET.cm (EV.nm 1) EV.int CS.eqI) (decide_eq_false h8)) SB.nil) (SB.stop (ST.yes (ET.to (ET.cm (EV.nm 1) EV.int CS.eqI) (decide_eq_true h9)) (SB.one (ST.ret (EV.call1' (n := 0) (ds := [.int ((X.length : Nat) : Int), .int ((b : Nat) : Int), .bl w]) (cs := (ns1F c X P ns).dropLast.map D.int) (cs' := (drawF (ns1F c X P ns).dropLast X.length b w).2.map D.int) (ok_law_drawn W) (EA.cons (EV.nm 0) (EA.cons (EV.nm 5) (EA.cons (EV.nm 10) (EA.cons (EV.nm 4) EA.nil)))) rfl ⟨_, X.length, b, w, la, lb, rfl, rfl, rfl, rfl⟩))))))
    · rw [sizeA, if_neg h0, if_neg h8] at ha
      rw [sizeB, if_neg h0, if_neg h8, if_neg h9] at hb
      have ea : X.length = a := by omega
      have eb : wd X = b := by omega
      subst ea eb
      exact SB.cons (ST.no (ET.to (ET.cm (EV.nm 1) EV.int CS.eqI) (decide_eq_false h0)) SB.nil) (SB.cons (ST.no (ET.to (ET.cm (EV.nm 1) EV.int CS.eqI) (decide_eq_false h8)) SB.nil) (SB.cons (ST.no (ET.to (ET.cm (EV.nm 1) EV.int CS.eqI) (decide_eq_false h9)) SB.nil) (SB.one (ST.ret (EV.call1' (n := 0) (ds := [.int ((X.length : Nat) : Int), .int ((wd X : Nat) : Int), .bl w]) (cs := (ns1F c X P ns).dropLast.map D.int) (cs' := (drawF (ns1F c X P ns).dropLast X.length (wd X) w).2.map D.int) (ok_law_drawn W) (EA.cons (EV.nm 0) (EA.cons (EV.nm 5) (EA.cons (EV.nm 6) (EA.cons (EV.nm 4) EA.nil)))) rfl ⟨_, X.length, wd X, w, la, lb, rfl, rfl, rfl, rfl⟩)))))
end
/-! ### something always fits -/
section
variable {g : Pg}
theorem numsF_vx {ns : List Int} {m : Nat} {w : Bool} (h : 1 ≤ m ∧ m ≤ 8) : Vx (numsF ns m w).1 := ⟨by rw [numsF_len]; exact h.1, by rw [numsF_len]; exact h.2, numsF_num⟩
theorem tensF_vx {ns : List Int} : Vx (tensF ns) := by
  have hp := tk_pos (ns := dl 1 ns) (b := 8) (by decide)
  have hl : (tensF ns).length = (1 + tk (dl 1 ns) 8).toNat := by
    unfold tensF
    rw [List.length_map, List.length_range]
  refine ⟨by omega, by omega, fun x hx => ?_⟩
  obtain ⟨i, _, rfl⟩ := List.mem_map.mp hx
  have h1 := tk_pos (ns := dl (2 + i) ns) (b := 41) (by decide)
  have hm : pick L10 (tk ns 6) ∈ L10 := pick_mem (tk_pos (by decide))
  have hq : ∀ q ∈ L10, q = 0 ∨ q = 1 ∨ q = 2 ∨ q = 6 ∨ q = 35 ∨ q = -4 := by decide
  rcases hq _ hm with h | h | h | h | h | h <;> rw [h] <;> omega
theorem nearF_mem {c : Int} {X N : List (List Int)} {P : List (List (List Int))} (h : N ∈ nearF c X P) : N ∈ P ∧ (b1F c X N = true ∨ b2F c X N = true) := by
  obtain ⟨y, hy, hn⟩ := List.mem_flatMap.mp h
  unfold nearOf at hn
  rcases List.mem_append.mp hn with hn | hn
  · split at hn
    · rw [List.mem_singleton] at hn
      subst hn
      exact ⟨hy, .inl (by assumption)⟩
    · simp at hn
  · split at hn
    · rw [List.mem_singleton] at hn
      subst hn
      exact ⟨hy, .inr (by assumption)⟩
    · simp at hn
theorem qu_m {c : Int} {X N : List (List Int)} (hx : Mx X) (hn : Mx N) (hc : c = 0 ∧ N.length = wd X ∨ c = 3 ∨ (c = 4 ∨ c = 5) ∧ X.length = N.length ∧ wd X = wd N ∨ c = 8 ∧ wd X = wd N ∨ c = 9 ∧ X.length = N.length) : ∃ r, Qu c X (.m N) r := by
  rcases hc with ⟨rfl, h⟩ | rfl | ⟨rfl | rfl, h, h2⟩ | ⟨rfl, h⟩ | ⟨rfl, h⟩
  · exact ⟨_, .q0 hx hn h⟩
  · exact ⟨_, .q3 hx hn⟩
  · exact ⟨_, .q4 hx hn h h2⟩
  · exact ⟨_, .q5 hx hn h h2⟩
  · exact ⟨_, .q8 hx hn h⟩
  · exact ⟨_, .q9 hx hn h⟩
theorem fits {c : Int} {X : List (List Int)} {P : List (List (List Int))} {w : Bool} {ns : List Int} (hc : 0 ≤ c ∧ c < 11) (hx : Mx X) (hP : ∀ N ∈ P, Mx N) : ∃ A ns' r, Fi c X P w ns A ns' ∧ Qu c X A r := by
  have lx : 1 ≤ X.length ∧ X.length ≤ 8 := ⟨hx.l1, hx.l8⟩
  have lw : 1 ≤ wd X ∧ wd X ≤ 8 := ⟨hx.w1, hx.w8⟩
  by_cases h1 : c = 1
  · subst h1
    exact ⟨_, _, _, .f1, .q1 hx (numsF_vx lx) numsF_len⟩
  by_cases h2 : c = 2
  · subst h2
    exact ⟨_, _, _, .f2, .q2 hx (numsF_vx lw) numsF_len⟩
  by_cases h6 : c = 6
  · subst h6
    refine ⟨_, _, _, .f6, .q6 hx ?_⟩
    have hq : ∀ q ∈ L6, -1000000 ≤ q ∧ q ≤ 1000000 := by decide
    exact hq _ (pick_mem (tk_pos (by decide)))
  by_cases h7 : c = 7
  · subst h7
    have hp := tk_pos (ns := ns) (b := 8) (by decide)
    obtain ⟨n, hn⟩ : ∃ n : Nat, 1 + tk ns 8 = (n : Int) := ⟨(1 + tk ns 8).toNat, by omega⟩
    refine ⟨_, _, tM (unitM n), .f7, ?_⟩
    rw [hn]
    exact .q7 hx (by omega)
  by_cases h10 : c = 10
  · subst h10
    exact ⟨_, _, _, .f10, .q10 hx tensF_vx⟩
  have hn : c ≠ 1 ∧ c ≠ 2 ∧ c ≠ 6 ∧ c ≠ 7 ∧ c ≠ 10 := ⟨h1, h2, h6, h7, h10⟩
  by_cases h : 1 < (nearF c X P).length ∧ tk ns 2 = 0
  · have hp := tk_pos (ns := dl 1 ns) (b := ((nearF c X P).length : Int)) (by omega)
    have hm : (nearF c X P).getD (tk (dl 1 ns) (nearF c X P).length).toNat [] ∈ nearF c X P := mem_getD (by omega)
    have hfi := Fi.near (w := w) hn h.1 h.2
    generalize (nearF c X P).getD (tk (dl 1 ns) (nearF c X P).length).toNat [] = N at hm hfi
    obtain ⟨h3, h4⟩ := nearF_mem hm
    obtain ⟨r, hr⟩ := qu_m (c := c) hx (hP _ h3) (by
      unfold b1F b2F inI at h4
      simp at h4
      omega)
    exact ⟨_, _, r, hfi, hr⟩
  · have hp := tk_pos (ns := ns1F c X P ns) (b := 4) (by decide)
    have ha : 1 ≤ sizeA c X (1 + tk (ns1F c X P ns) 4) ∧ sizeA c X (1 + tk (ns1F c X P ns) 4) ≤ 8 := by
      unfold sizeA
      split
      · omega
      · split <;> omega
    have hb : 1 ≤ sizeB c X (1 + tk (ns1F c X P ns) 4) ∧ sizeB c X (1 + tk (ns1F c X P ns) 4) ≤ 8 := by
      unfold sizeB
      split
      · omega
      · split
        · omega
        · split <;> omega
    obtain ⟨a, ea⟩ : ∃ a : Nat, sizeA c X (1 + tk (ns1F c X P ns) 4) = (a : Int) := ⟨(sizeA c X (1 + tk (ns1F c X P ns) 4)).toNat, by omega⟩
    obtain ⟨b, eb⟩ : ∃ b : Nat, sizeB c X (1 + tk (ns1F c X P ns) 4) = (b : Int) := ⟨(sizeB c X (1 + tk (ns1F c X P ns) 4)).toNat, by omega⟩
    obtain ⟨d1, d2, d3⟩ := drawF_mx (ns := (ns1F c X P ns).dropLast) (n := a) (m := b) (w := w) (by omega) (by omega)
    obtain ⟨r, hr⟩ := qu_m (c := c) hx d1 (by
      rw [d2, d3]
      unfold sizeA at ea
      unfold sizeB at eb
      have : c = 0 ∨ c = 3 ∨ c = 4 ∨ c = 5 ∨ c = 8 ∨ c = 9 := by omega
      rcases this with rfl | rfl | rfl | rfl | rfl | rfl <;> simp at ea eb ⊢ <;> omega)
    exact ⟨_, _, r, .fresh hn h ea eb (by omega) (by omega), hr⟩
/-! ### cells of a matrix -/
theorem matC_len {b : Nat} {m : List (List Int)} : (matC b m).length = 1 + m.length := by
  unfold matC
  rw [List.length_cons, List.length_map]
  omega
theorem mat_top {pre post : Mem} {b : Nat} {m : List (List Int)} (h : pre.length = b) : (pre ++ matC b m ++ post)[b]? = some (some ((List.range m.length).map fun i => .adr (b + 1 + i))) := by
  rw [List.append_assoc, List.getElem?_append_right (by omega), h, Nat.sub_self]
  rfl
theorem mat_get {pre post : Mem} {b i : Nat} {m : List (List Int)} (h : pre.length = b) (hi : i < m.length) : (pre ++ matC b m ++ post)[b + 1 + i]? = some (rowC (m.getD i [])) := by
  rw [List.append_assoc, List.getElem?_append_right (by omega), h, show b + 1 + i - b = i + 1 by omega, List.getElem?_append_left (by rw [matC_len]; omega)]
  show (m.map rowC)[i]? = _
  rw [List.getElem?_map, List.getElem?_eq_getElem hi, List.getD_eq_getElem?_getD, List.getElem?_eq_getElem hi]
  rfl
theorem mat_set {pre post : Mem} {b i : Nat} {m : List (List Int)} {r : List Int} (h : pre.length = b) (hi : i < m.length) : (pre ++ matC b m ++ post).set (b + 1 + i) (rowC r) = pre ++ matC b (m.set i r) ++ post := by
  rw [List.append_assoc, List.set_append_right _ _ (by omega), h, show b + 1 + i - b = i + 1 by omega, List.set_append_left _ _ (by rw [matC_len]; omega), List.append_assoc]
  congr 2
  show _ :: (m.map rowC).set i (rowC r) = some ((List.range (m.set i r).length).map _) :: (m.set i r).map rowC
  rw [List.length_set, List.map_set]
theorem rows_view {M : Mem} : ∀ (m : List (List Int)) (k : Nat), (∀ i, i < m.length → M[k + i]? = some (rowC (m.getD i []))) → Views M ((List.range m.length).map fun i => .adr (k + i)) (m.map lV)
  | [], _, _ => .nil
  | r :: m, k, h => by
    rw [List.length_cons, List.range_succ_eq_map, List.map_cons, List.map_map, List.map_cons]
    refine .cons (.cel (h 0 (by simp)) (Views.ints _)) ?_
    have := rows_view m (k + 1) fun i hi => by
      have := h (i + 1) (by simpa using hi)
      rw [show k + 1 + i = k + (i + 1) by omega]
      exact this
    have e : ((fun i => O.adr (k + i)) ∘ Nat.succ) = fun i => O.adr (k + 1 + i) := by
      funext i
      show O.adr (k + (i + 1)) = _
      congr 1
      omega
    rw [e]
    exact this
theorem mat_view {pre post : Mem} {b : Nat} {m : List (List Int)} (h : pre.length = b) : View (pre ++ matC b m ++ post) (.adr b) (lM m) := .cel (mat_top h) (rows_view m (b + 1) fun i hi => mat_get h hi)
theorem row_view {M : Mem} {k : Nat} {v : List Int} (h : M[k]? = some (rowC v)) : View M (.adr k) (lV v) := .cel h (Views.ints _)
theorem adr_at {n b i : Nat} (h : i < n) : atI ((List.range n).map fun k => O.adr (b + k)) ((i : Nat) : Int) = some (.adr (b + i)) := by
  refine atI_nat ?_
  rw [List.getElem?_map, List.getElem?_range h]
  rfl
theorem row_at {v : List Int} {j : Nat} (h : j < v.length) : atI ((v.map D.int).map O.dat) ((j : Nat) : Int) = some (.dat (.int (v.getD j 0))) := by
  refine atI_nat ?_
  rw [List.getElem?_map, List.getElem?_map, getD_of_lt h]
  rfl
def bump (x : Int) : Int := x - 1 + 2 * (if decide (x < 0) = true then 1 else 0)
theorem bump_ok {x : Int} (h : -1000000 ≤ x ∧ x ≤ 1000000) : -1000000 ≤ bump x ∧ bump x ≤ 1000000 := by
  unfold bump
  by_cases h0 : x < 0
  · rw [if_pos (decide_eq_true h0)]
    omega
  · rw [if_neg (by simpa using h0)]
    omega
def bumpM (X : List (List Int)) (i j : Nat) : List (List Int) := X.set i ((X.getD i []).set j (bump ((X.getD i []).getD j 0)))
theorem bumpM_ok {X : List (List Int)} {i j : Nat} (h : Mx X) (hi : i < X.length) (hj : j < wd X) : Mx (bumpM X i j) ∧ (bumpM X i j).length = X.length ∧ wd (bumpM X i j) = wd X := by
  have hl : (bumpM X i j).length = X.length := List.length_set
  have hr : ∀ r ∈ bumpM X i j, r.length = wd X := fun r hr => by
    rcases List.mem_or_eq_of_mem_set hr with hr | rfl
    · exact h.rect r hr
    · rw [List.length_set, h.len hi]
  have hw : wd (bumpM X i j) = wd X := by
    rw [wd_get]
    exact hr _ (mem_getD (by have := h.l1; omega))
  have l1 := h.l1
  have l8 := h.l8
  have w1 := h.w1
  have w8 := h.w8
  refine ⟨⟨by omega, by omega, by omega, by omega, fun r q => by rw [hw]; exact hr r q, fun r q x hx => ?_⟩, hl, hw⟩
  rcases List.mem_or_eq_of_mem_set q with q | rfl
  · exact h.num r q x hx
  · rcases List.mem_or_eq_of_mem_set hx with hx | rfl
    · exact h.num _ (mem_getD hi) x hx
    · exact bump_ok (h.at hi hj)
def bumpV (v : List Int) : List Int := v.set 0 (bump (v.getD 0 0))
theorem bumpV_ok {v : List Int} (h : Vx v) : Vx (bumpV v) ∧ (bumpV v).length = v.length := by
  have hl : (bumpV v).length = v.length := List.length_set
  have l1 := h.l1
  have l8 := h.l8
  refine ⟨⟨by omega, by omega, fun x hx => ?_⟩, hl⟩
  rcases List.mem_or_eq_of_mem_set hx with hx | rfl
  · exact h.num x hx
  · exact bump_ok (h.num _ (mem_getD (by omega)))
def bumpA : Ar → Ar
  | .v q => .v (bumpV q)
  | a => a
theorem qu_bump {c : Int} {X X' : List (List Int)} {A : Ar} {r : D} (h : Qu c X A r) (hx : Mx X') (hl : X'.length = X.length) (hw : wd X' = wd X) : ∃ r', Qu c X' (bumpA A) r' := by
  cases h with
  | q0 _ hn h => exact ⟨_, .q0 hx hn (by omega)⟩
  | q1 _ hv h => exact ⟨_, .q1 hx (bumpV_ok hv).1 (by rw [(bumpV_ok hv).2]; omega)⟩
  | q2 _ hv h => exact ⟨_, .q2 hx (bumpV_ok hv).1 (by rw [(bumpV_ok hv).2]; omega)⟩
  | q3 _ hn => exact ⟨_, .q3 hx hn⟩
  | q4 _ hn h h2 => exact ⟨_, .q4 hx hn (by omega) (by omega)⟩
  | q5 _ hn h h2 => exact ⟨_, .q5 hx hn (by omega) (by omega)⟩
  | q6 _ h => exact ⟨_, .q6 hx h⟩
  | q7 _ h => exact ⟨_, .q7 hx h⟩
  | q8 _ hn h => exact ⟨_, .q8 hx hn (by omega)⟩
  | q9 _ hn h => exact ⟨_, .q9 hx hn (by omega)⟩
  | q10 _ hv => exact ⟨_, .q10 hx (bumpV_ok hv).1⟩
/-! ### answers are flat enough -/
theorem fitV {v : List Int} {n : Nat} (h : v.length < 100000) : Fit (n + 1) (tV v) := ⟨by rw [List.length_map]; exact h, fun x hx => by
  obtain ⟨i, _, rfl⟩ := List.mem_map.mp hx
  cases n <;> exact True.intro⟩
theorem fitVl {v : List Int} {n : Nat} (h : v.length < 100000) : Fit (n + 1) (lV v) := ⟨by rw [List.length_map]; exact h, fun x hx => by
  obtain ⟨i, _, rfl⟩ := List.mem_map.mp hx
  cases n <;> exact True.intro⟩
theorem fitM {m : List (List Int)} {n : Nat} (h : m.length < 100000) (h2 : ∀ r ∈ m, r.length < 100000) : Fit (n + 2) (tM m) := ⟨by rw [List.length_map]; exact h, fun x hx => by
  obtain ⟨r, hr, rfl⟩ := List.mem_map.mp hx
  exact fitV (h2 r hr)⟩
theorem fitMl {m : List (List Int)} {n : Nat} (h : m.length < 100000) (h2 : ∀ r ∈ m, r.length < 100000) : Fit (n + 2) (lM m) := ⟨by rw [List.length_map]; exact h, fun x hx => by
  obtain ⟨r, hr, rfl⟩ := List.mem_map.mp hx
  exact fitVl (h2 r hr)⟩
/-- what is answered is a number, a row, or a table of at most 16 by 16 -/
inductive Ans : D → Prop
  | n (i : Int) : Ans (.int i)
  | v (v : List Int) (h : v.length ≤ 16) : Ans (tV v)
  | m (m : List (List Int)) (h : m.length ≤ 16) (h2 : ∀ r ∈ m, r.length ≤ 16) : Ans (tM m)
theorem Qu.mx {c : Int} {X : List (List Int)} {A : Ar} {r : D} (h : Qu c X A r) : Mx X := by
  cases h <;> assumption
theorem qu_ans {c : Int} {X : List (List Int)} {A : Ar} {r : D} (h : Qu c X A r) : Ans r := by
  have hx := h.mx
  have x8 := hx.l8
  have w8 := hx.w8
  have hr := hx.rect
  cases h with
  | q0 _ hn h =>
    refine .m _ (by unfold mulM; rw [List.length_map]; omega) fun r hr => ?_
    obtain ⟨q, _, rfl⟩ := List.mem_map.mp hr
    have := hn.w8
    rw [List.length_map, flip_length]
    omega
  | q1 _ hv h => exact .v _ (by unfold ledBy; rw [List.length_map, List.length_range]; omega)
  | q2 _ hv h => exact .v _ (by unfold ontoM; rw [List.length_map]; omega)
  | q3 _ hn =>
    refine .m _ (by rw [flip_length]; omega) fun r hr => ?_
    rw [flip_len hr]
    omega
  | q4 _ hn h h2 =>
    refine .m _ (by unfold addM; rw [List.length_map, List.length_zip]; omega) fun r hr' => ?_
    obtain ⟨q, hq, rfl⟩ := List.mem_map.mp hr'
    have := hr _ (List.of_mem_zip hq).1
    rw [List.length_map, List.length_zip]
    omega
  | q5 _ hn h h2 =>
    refine .m _ (by unfold addM; rw [List.length_map, List.length_zip]; omega) fun r hr' => ?_
    obtain ⟨q, hq, rfl⟩ := List.mem_map.mp hr'
    have := hr _ (List.of_mem_zip hq).1
    rw [List.length_map, List.length_zip]
    omega
  | q6 _ h =>
    refine .m _ (by unfold manyM; rw [List.length_map]; omega) fun r hr' => ?_
    obtain ⟨q, hq, rfl⟩ := List.mem_map.mp hr'
    rw [List.length_map, hr q hq]
    omega
  | q7 _ h =>
    refine .m _ (by unfold unitM; rw [List.length_map, List.length_range]; omega) fun r hr' => ?_
    obtain ⟨q, hq, rfl⟩ := List.mem_map.mp hr'
    rw [List.length_map, List.length_range]
    omega
  | q8 _ hn h =>
    have := hn.l8
    have := hn.w8
    refine .m _ (by rw [List.length_append]; omega) fun r hr' => ?_
    rcases List.mem_append.mp hr' with q | q
    · rw [hr r q]; omega
    · rw [hn.rect r q]; omega
  | q9 _ hn h =>
    have := hn.w8
    refine .m _ (by unfold besM; rw [List.length_map, List.length_zip]; omega) fun r hr' => ?_
    obtain ⟨q, hq, rfl⟩ := List.mem_map.mp hr'
    have h1 := hr _ (List.of_mem_zip hq).1
    have h2 := hn.rect _ (List.of_mem_zip hq).2
    rw [List.length_append, h1, h2]
    omega
  | q10 _ hv => exact .n _
theorem Ans.fit {r : D} (h : Ans r) : Fit 3 r := by
  cases h with
  | n i => exact True.intro
  | v v h => exact fitV (by omega)
  | m m h h2 => exact fitM (by omega) fun r hr => by have := h2 r hr; omega
theorem Ans.noL {r : D} (h : Ans r) : NoL r := by
  cases h with
  | n i => exact .int i
  | v v h => exact NoL.ints v
  | m m h h2 => exact NoL.mat m
end
/-! ### one question is asked -/
section
variable {g : Pg}
theorem rv_get {pre : Mem} {k : Nat} {c : Option (List O)} (h : pre.length = k) : (pre ++ [c])[k]? = some c := by
  rw [List.getElem?_append_right (by omega), h, Nat.sub_self]
  rfl
theorem rv_set {pre : Mem} {k : Nat} {c d : Option (List O)} (h : pre.length = k) : (pre ++ [c]).set k d = pre ++ [d] := by
  rw [List.set_append_right _ _ (by omega), h, Nat.sub_self]
  rfl
theorem mat_view' {pre : Mem} {b : Nat} {m : List (List Int)} (h : pre.length = b) : View (pre ++ matC b m) (.adr b) (lM m) := by
  have := mat_view (pre := pre) (post := []) (m := m) h
  rw [List.append_nil] at this
  exact this
theorem pre_len {ns : List Int} {X : List (List Int)} {n : Nat} (h : X.length = n) : ([rowC ns] ++ matC 1 X : Mem).length = 2 + n := by
  rw [List.length_append, matC_len, h, List.length_singleton]
  omega
theorem row_set {v : List Int} {j : Nat} {x : Int} : (some (((v.map D.int).map O.dat).set j (.dat (.int x))) : Option (List O)) = rowC (v.set j x) := by
  show _ = some _
  rw [List.map_set, List.map_set]
theorem isA_L {y : D} {A : Ar} (h : IsA y A) : IsA A.L A := by
  cases A with
  | v v => exact isV_l h.1
  | m n => exact isM_l h.1
  | k k => exact rfl
theorem isA_T {y : D} {A : Ar} (h : IsA y A) : IsA A.T A := by
  cases A with
  | v v => exact isV_t h.1
  | m n => exact isM_t h.1
  | k k => exact rfl
def Ar.isV : Ar → Bool
  | .v _ => true
  | _ => false
theorem qu_kind {c : Int} {X : List (List Int)} {A : Ar} {r : D} (h : Qu c X A r) : inI c [1, 2, 10] = A.isV := by
  cases h <;> rfl
theorem adr_len {n b : Nat} : ((List.range n).map fun i => O.adr (b + i)).length = n := by rw [List.length_map, List.length_range]
theorem row_len {v : List Int} : ((v.map D.int).map O.dat).length = v.length := by rw [List.length_map, List.length_map]
def askR : Rel := fun os M o M' => ∃ (c : Int) (x y : D) (X : List (List Int)) (A : Ar) (r : D) (ns : List Int), IsM x X ∧ IsA y A ∧ Qu c X A r ∧ os = [.adr 0, .dat (.int c), .dat x, .dat y] ∧ M = [rowC ns] ∧ o = .dat (.bl true) ∧ M' = [rowC (dl 2 ns)]
theorem asked_v (W : Wd g) {c : Int} {x y : D} {X : List (List Int)} {v : List Int} {r : D} {ns : List Int} (hx : IsM x X) (hy : IsA y (.v v)) (hq : Qu c X (.v v) r) :
    ∃ J, SB (mkC g n_law_asked s_law_asked 9) (defBody s_law_asked) (pad n_law_asked [.adr 0, .dat (.int c), .dat x, .dat y]) [rowC ns] (.rt (.dat (.bl true)) ([rowC (dl 2 ns)] ++ J)) := by
  have hlen : v.length < 100000 := by
      have := hy.1.l8
      omega
  have T := ok_law_take W
  have x1 := hx.1.l1
  have x8 := hx.1.l8
  have w1 := hx.1.w1
  have w8 := hx.1.w8
  have pi := tk_pos (ns := ns) (b := (X.length : Int)) (by omega)
  have pj := tk_pos (ns := dl 1 ns) (b := (wd X : Int)) (by omega)
  obtain ⟨ki, eki⟩ : ∃ ki : Nat, tk ns X.length = (ki : Int) := ⟨(tk ns X.length).toNat, by omega⟩
  obtain ⟨kj, ekj⟩ : ∃ kj : Nat, tk (dl 1 ns) (wd X) = (kj : Int) := ⟨(tk (dl 1 ns) (wd X)).toNat, by omega⟩
  have lki : ki < X.length := by omega
  have lkw : kj < wd X := by omega
  have lkj : kj < (X.getD ki []).length := by rw [hx.1.len lki]; exact lkw
  obtain ⟨hbx, hbl, hbw⟩ := bumpM_ok hx.1 lki lkw
  obtain ⟨r', hq'⟩ := qu_bump hq hbx hbl hbw
  have hyL : IsA (lV v) (.v v) := isA_L hy
  have hyT : IsA (tV v) (.v v) := isA_T hy
  have hyB : IsA (lV (bumpV v)) (.v (bumpV v)) := isV_l (bumpV_ok hy.1).1
  have s1 := ok_law_like W 3
  refine ⟨matC 1 (bumpM X ki kj) ++ [rowC (bumpV v)], SB.cons (ST.set 4 (EV.c3 (ok_law_due W) (EV.nm 1) (EV.nm 2) (EV.nm 3) ⟨c, X, _, rfl, hx, hy, hq⟩) c_law_asked.nd) (SB.cons (ST.no (ET.to (ET.not (ET.val (EV.c2 s1 (EV.c3 (ok_law_near W) (EV.nm 1) (EV.c1 (ok_law_firm2 W) (EV.nm 2) ⟨X, hx, rfl⟩) (EV.c1 (ok_law_firm1 W) (EV.nm 3) ⟨v, hy.2, hlen, rfl⟩) ⟨c, X, _, rfl, isM_t hx.1, hyT, hq⟩) (EV.nm 4) ⟨rfl, (qu_ans hq).fit, rfl⟩))) rfl) SB.nil) (SB.cons
    (ST.set 5 (EV.callM (ds := [x]) (o := .adr 1) (M2 := [rowC ns] ++ matC 1 X) (ok_law_looseC2 W) (EA.cons (EV.nm 2) EA.nil) ⟨x, X, hx, rfl, rfl, rfl, rfl⟩ rfl (by congr 1; exact (matC_ren 1 X).symm)) c_law_asked.nd) (SB.cons (E1 := [.adr 0, .dat (.int c), .dat x, .dat y, .dat r, .adr 1, .adr (2 + X.length), .no, .no]) (M1 := [rowC (ns)] ++ matC 1 (X) ++ [rowC v]) (ST.set 6 (EV.callM (ds := [y]) (o := .adr (2 + X.length)) (M2 := [rowC ns] ++ matC 1 X ++ [rowC v]) (ok_law_looseC1 W) (EA.cons (EV.nm 3) EA.nil) ⟨y, v, hy.2, hlen, rfl, rfl, rfl, rfl⟩ (by show _ = O.adr (_ + 0); rw [pre_len rfl]; rfl) (by congr 1; show _ = [some (((v.map D.int).map O.dat).map _)]; rw [ren_dat])) c_law_asked.nd) ?_)))⟩
  refine SB.cons (ST.no (ET.to (ET.not (ET.val (EV.c2 s1 (EV.lend (ds := [.int c, lM X, lV v]) (ok_law_near W) (EA.cons (EV.nm 1) (EA.cons (EV.nm 5) (EA.cons (EV.nm 6) EA.nil))) (.cons (.dat _) (.cons (mat_view rfl) (.cons (row_view (rv_get (pre_len rfl))) .nil))) ⟨_, _, _, _, rfl, rfl, rfl, rfl, c, X, _, rfl, isM_l hx.1, hyL, hq⟩ (qu_ans hq).noL) (EV.nm 4) ⟨rfl, (qu_ans hq).fit, rfl⟩))) rfl) SB.nil) ?_
  refine SB.cons (ST.no (ET.to (EW.et (EW.or (k1 := false) (ET.to (ET.not (ET.val (EV.lend (ds := [lM X, lM X]) (d := .bl true) s1 (EA.cons (EV.nm 5) (EA.cons (EV.c1 (ok_law_loose2 W) (EV.nm 2) ⟨X, hx, rfl⟩) EA.nil)) (.cons (mat_view rfl) (.cons (.dat _) .nil)) ⟨_, _, _, rfl, rfl, rfl, rfl, rfl, fitMl hx.1.sm.1 hx.1.sm.2.2, rfl⟩ (.bl true)))) rfl) (fun _ => EW.or1 (ET.not (ET.val (EV.lend (ds := [lV v, lV v]) (d := .bl true) s1 (EA.cons (EV.nm 6) (EA.cons (EV.c1 (ok_law_loose1 W) (EV.nm 3) ⟨v, hy.2, hlen, rfl⟩) EA.nil)) (.cons (row_view (rv_get (pre_len rfl))) (.cons (.dat _) .nil)) ⟨_, _, _, rfl, rfl, rfl, rfl, rfl, (fitVl hlen), rfl⟩ (.bl true))))) (fun z => nomatch z))) rfl) SB.nil) ?_
  refine SB.cons (E1 := [.adr 0, .dat (.int c), .dat x, .dat y, .dat r, .adr 1, .adr (2 + X.length), .dat (.int (ki : Int)), .no]) (M1 := [rowC (dl 1 ns)] ++ matC 1 (X) ++ [rowC v]) (ST.set 7 (EV.to (ev_tk (ns := ns) (j := (X.length : Int)) T (EV.nm 0) (EV.to (EV.lenC (nn := 1) (EV.nm 5) (mat_top rfl) W.b.len) (by rw [adr_len])) rfl (by omega)) (by rw [eki])) c_law_asked.nd) ?_
  refine SB.cons (E1 := [.adr 0, .dat (.int c), .dat x, .dat y, .dat r, .adr 1, .adr (2 + X.length), .dat (.int (ki : Int)), .dat (.int (kj : Int))]) (M1 := [rowC (dl 2 ns)] ++ matC 1 (X) ++ [rowC v]) (ST.set 8 (EV.to (ev_tk (ns := dl 1 ns) (j := (wd X : Int)) T (EV.nm 0) (EV.to (EV.lenC (nn := 1 + 1 + 0) (EV.ixC (n := 1) (EV.nm 5) EV.int (mat_top rfl) (adr_at (i := 0) hx.1.z)) (mat_get rfl hx.1.z) W.b.len) (by rw [row_len, ← wd_get])) rfl (by omega)) (by rw [ekj])) c_law_asked.nd) ?_
  refine SB.cons (E1 := [.adr 0, .dat (.int c), .dat x, .dat y, .dat r, .adr 1, .adr (2 + X.length), .dat (.int (ki : Int)), .dat (.int (kj : Int))]) (M1 := [rowC (dl 2 ns)] ++ matC 1 (bumpM X ki kj) ++ [rowC v]) (ST.to (ST.asg (EV.add (EV.sub (EV.ixC (n := 1 + 1 + ki) (ps := ((X.getD ki []).map D.int).map O.dat) (EV.ixC (n := 1) (EV.nm 5) (EV.nm 7) (mat_top rfl) (adr_at lki)) (EV.nm 8) (mat_get rfl lki) (row_at lkj)) EV.int) (EV.mulL EV.int (EV.intB (EV.cm (EV.ixC (n := 1 + 1 + ki) (ps := ((X.getD ki []).map D.int).map O.dat) (EV.ixC (n := 1) (EV.nm 5) (EV.nm 7) (mat_top rfl) (adr_at lki)) (EV.nm 8) (mat_get rfl lki) (row_at lkj)) EV.int CS.ltI) W.b.int) (by decide))) (EG.sub (n := 1 + 1 + ki) (ps := ((X.getD ki []).map D.int).map O.dat) (EV.ixC (n := 1) (EV.nm 5) (EV.nm 7) (mat_top rfl) (adr_at lki)) (EV.nm 8) (mat_get rfl lki) (ixN_of (by rw [row_len]; exact lkj)))) ?_) ?_
  · show Out.nx _ (([rowC (dl 2 ns)] ++ matC 1 X ++ [rowC v]).set (1 + 1 + ki) (some ((((X.getD ki []).map D.int).map O.dat).set kj (.dat (.int (bump ((X.getD ki []).getD kj 0))))))) = _
    rw [row_set, mat_set (pre := [rowC (dl 2 ns)]) (b := 1) rfl lki]
    rfl
  have v1 : 0 < v.length := hy.1.l1
  refine SB.cons (E1 := [.adr 0, .dat (.int c), .dat x, .dat y, .dat r, .adr 1, .adr (2 + X.length), .dat (.int (ki : Int)), .dat (.int (kj : Int))]) (M1 := [rowC (dl 2 ns)] ++ matC 1 (bumpM X ki kj) ++ [rowC (bumpV v)]) (ST.yes (ET.to (ET.cm (EV.nm 1) (EV.lst (ds := ([1, 2, 10] : List Int).map D.int) (EA.cons EV.int (EA.cons EV.int (EA.cons EV.int EA.nil))) (by decide)) CS.inI) (qu_kind hq)) (SB.one (ST.to (ST.asg (EV.add (EV.sub (EV.ixC (n := 2 + X.length) (ps := (v.map D.int).map O.dat) (EV.nm 6) EV.int (rv_get (pre_len hbl)) (row_at (j := 0) v1)) EV.int) (EV.mulL EV.int (EV.intB (EV.cm (EV.ixC (n := 2 + X.length) (ps := (v.map D.int).map O.dat) (EV.nm 6) EV.int (rv_get (pre_len hbl)) (row_at (j := 0) v1)) EV.int CS.ltI) W.b.int) (by decide))) (EG.sub (n := 2 + X.length) (jj := 0) (ps := (v.map D.int).map O.dat) (EV.nm 6) EV.int (rv_get (pre_len hbl)) (ixN_of (k := 0) (by rw [row_len]; exact v1)))) ?_))) ?_
  · show Out.nx _ (([rowC (dl 2 ns)] ++ matC 1 (bumpM X ki kj) ++ [rowC v]).set (2 + X.length) (some (((v.map D.int).map O.dat).set 0 (.dat (.int (bump (v.getD 0 0))))))) = _
    rw [row_set, rv_set (pre_len hbl)]
    rfl
  refine SB.cons (ST.set 4 (EV.lend (ds := [.int c, lM (bumpM X ki kj), lV (bumpV v)]) (ok_law_due W) (EA.cons (EV.nm 1) (EA.cons (EV.nm 5) (EA.cons (EV.nm 6) EA.nil))) (.cons (.dat _) (.cons (mat_view rfl) (.cons (row_view (rv_get (pre_len hbl))) .nil))) ⟨_, _, _, _, rfl, rfl, rfl, rfl, c, (bumpM X ki kj), _, rfl, isM_l hbx, hyB, hq'⟩ (qu_ans hq').noL) c_law_asked.nd) (SB.to (SB.one (ST.ret (EV.c2 s1 (EV.lend (ds := [.int c, lM (bumpM X ki kj), lV (bumpV v)]) (ok_law_near W) (EA.cons (EV.nm 1) (EA.cons (EV.nm 5) (EA.cons (EV.nm 6) EA.nil))) (.cons (.dat _) (.cons (mat_view rfl) (.cons (row_view (rv_get (pre_len hbl))) .nil))) ⟨_, _, _, _, rfl, rfl, rfl, rfl, c, (bumpM X ki kj), _, rfl, isM_l hbx, hyB, hq'⟩ (qu_ans hq').noL) (EV.nm 4) ⟨rfl, (qu_ans hq').fit, rfl⟩))) ?_)
  rw [List.append_assoc]
theorem asked_m (W : Wd g) {c : Int} {x y : D} {X : List (List Int)} {N : List (List Int)} {r : D} {ns : List Int} (hx : IsM x X) (hy : IsA y (.m N)) (hq : Qu c X (.m N) r) :
    ∃ J, SB (mkC g n_law_asked s_law_asked 9) (defBody s_law_asked) (pad n_law_asked [.adr 0, .dat (.int c), .dat x, .dat y]) [rowC ns] (.rt (.dat (.bl true)) ([rowC (dl 2 ns)] ++ J)) := by
  have hk : True := True.intro
  have T := ok_law_take W
  have x1 := hx.1.l1
  have x8 := hx.1.l8
  have w1 := hx.1.w1
  have w8 := hx.1.w8
  have pi := tk_pos (ns := ns) (b := (X.length : Int)) (by omega)
  have pj := tk_pos (ns := dl 1 ns) (b := (wd X : Int)) (by omega)
  obtain ⟨ki, eki⟩ : ∃ ki : Nat, tk ns X.length = (ki : Int) := ⟨(tk ns X.length).toNat, by omega⟩
  obtain ⟨kj, ekj⟩ : ∃ kj : Nat, tk (dl 1 ns) (wd X) = (kj : Int) := ⟨(tk (dl 1 ns) (wd X)).toNat, by omega⟩
  have lki : ki < X.length := by omega
  have lkw : kj < wd X := by omega
  have lkj : kj < (X.getD ki []).length := by rw [hx.1.len lki]; exact lkw
  obtain ⟨hbx, hbl, hbw⟩ := bumpM_ok hx.1 lki lkw
  obtain ⟨r', hq'⟩ := qu_bump hq hbx hbl hbw
  have hyL : IsA (lM N) (.m N) := isA_L hy
  have hyT : IsA (tM N) (.m N) := isA_T hy
  have hyB : IsA (lM N) (.m N) := isM_l hy.1
  have s1 := ok_law_like W 3
  refine ⟨matC 1 (bumpM X ki kj) ++ matC (2 + X.length) N, SB.cons (ST.set 4 (EV.c3 (ok_law_due W) (EV.nm 1) (EV.nm 2) (EV.nm 3) ⟨c, X, _, rfl, hx, hy, hq⟩) c_law_asked.nd) (SB.cons (ST.no (ET.to (ET.not (ET.val (EV.c2 s1 (EV.c3 (ok_law_near W) (EV.nm 1) (EV.c1 (ok_law_firm2 W) (EV.nm 2) ⟨X, hx, rfl⟩) (EV.c1 (ok_law_firm2 W) (EV.nm 3) ⟨N, hy, rfl⟩) ⟨c, X, _, rfl, isM_t hx.1, hyT, hq⟩) (EV.nm 4) ⟨rfl, (qu_ans hq).fit, rfl⟩))) rfl) SB.nil) (SB.cons
    (ST.set 5 (EV.callM (ds := [x]) (o := .adr 1) (M2 := [rowC ns] ++ matC 1 X) (ok_law_looseC2 W) (EA.cons (EV.nm 2) EA.nil) ⟨x, X, hx, rfl, rfl, rfl, rfl⟩ rfl (by congr 1; exact (matC_ren 1 X).symm)) c_law_asked.nd) (SB.cons (E1 := [.adr 0, .dat (.int c), .dat x, .dat y, .dat r, .adr 1, .adr (2 + X.length), .no, .no]) (M1 := [rowC (ns)] ++ matC 1 (X) ++ matC (2 + X.length) N) (ST.set 6 (EV.callM (ds := [y]) (o := .adr (2 + X.length)) (M2 := [rowC ns] ++ matC 1 X ++ matC (2 + X.length) N) (ok_law_looseC2 W) (EA.cons (EV.nm 3) EA.nil) ⟨y, N, hy, rfl, rfl, rfl, rfl⟩ (by show _ = O.adr (_ + 0); rw [pre_len rfl]; rfl) (by rw [pre_len rfl, matC_ren])) c_law_asked.nd) ?_)))⟩
  refine SB.cons (ST.no (ET.to (ET.not (ET.val (EV.c2 s1 (EV.lend (ds := [.int c, lM X, lM N]) (ok_law_near W) (EA.cons (EV.nm 1) (EA.cons (EV.nm 5) (EA.cons (EV.nm 6) EA.nil))) (.cons (.dat _) (.cons (mat_view rfl) (.cons (mat_view' (pre_len rfl)) .nil))) ⟨_, _, _, _, rfl, rfl, rfl, rfl, c, X, _, rfl, isM_l hx.1, hyL, hq⟩ (qu_ans hq).noL) (EV.nm 4) ⟨rfl, (qu_ans hq).fit, rfl⟩))) rfl) SB.nil) ?_
  refine SB.cons (ST.no (ET.to (EW.et (EW.or (k1 := false) (ET.to (ET.not (ET.val (EV.lend (ds := [lM X, lM X]) (d := .bl true) s1 (EA.cons (EV.nm 5) (EA.cons (EV.c1 (ok_law_loose2 W) (EV.nm 2) ⟨X, hx, rfl⟩) EA.nil)) (.cons (mat_view rfl) (.cons (.dat _) .nil)) ⟨_, _, _, rfl, rfl, rfl, rfl, rfl, fitMl hx.1.sm.1 hx.1.sm.2.2, rfl⟩ (.bl true)))) rfl) (fun _ => EW.or1 (ET.not (ET.val (EV.lend (ds := [lM N, lM N]) (d := .bl true) s1 (EA.cons (EV.nm 6) (EA.cons (EV.c1 (ok_law_loose2 W) (EV.nm 3) ⟨N, hy, rfl⟩) EA.nil)) (.cons (mat_view' (pre_len rfl)) (.cons (.dat _) .nil)) ⟨_, _, _, rfl, rfl, rfl, rfl, rfl, (fitMl hy.1.sm.1 hy.1.sm.2.2), rfl⟩ (.bl true))))) (fun z => nomatch z))) rfl) SB.nil) ?_
  refine SB.cons (E1 := [.adr 0, .dat (.int c), .dat x, .dat y, .dat r, .adr 1, .adr (2 + X.length), .dat (.int (ki : Int)), .no]) (M1 := [rowC (dl 1 ns)] ++ matC 1 (X) ++ matC (2 + X.length) N) (ST.set 7 (EV.to (ev_tk (ns := ns) (j := (X.length : Int)) T (EV.nm 0) (EV.to (EV.lenC (nn := 1) (EV.nm 5) (mat_top rfl) W.b.len) (by rw [adr_len])) rfl (by omega)) (by rw [eki])) c_law_asked.nd) ?_
  refine SB.cons (E1 := [.adr 0, .dat (.int c), .dat x, .dat y, .dat r, .adr 1, .adr (2 + X.length), .dat (.int (ki : Int)), .dat (.int (kj : Int))]) (M1 := [rowC (dl 2 ns)] ++ matC 1 (X) ++ matC (2 + X.length) N) (ST.set 8 (EV.to (ev_tk (ns := dl 1 ns) (j := (wd X : Int)) T (EV.nm 0) (EV.to (EV.lenC (nn := 1 + 1 + 0) (EV.ixC (n := 1) (EV.nm 5) EV.int (mat_top rfl) (adr_at (i := 0) hx.1.z)) (mat_get rfl hx.1.z) W.b.len) (by rw [row_len, ← wd_get])) rfl (by omega)) (by rw [ekj])) c_law_asked.nd) ?_
  refine SB.cons (E1 := [.adr 0, .dat (.int c), .dat x, .dat y, .dat r, .adr 1, .adr (2 + X.length), .dat (.int (ki : Int)), .dat (.int (kj : Int))]) (M1 := [rowC (dl 2 ns)] ++ matC 1 (bumpM X ki kj) ++ matC (2 + X.length) N) (ST.to (ST.asg (EV.add (EV.sub (EV.ixC (n := 1 + 1 + ki) (ps := ((X.getD ki []).map D.int).map O.dat) (EV.ixC (n := 1) (EV.nm 5) (EV.nm 7) (mat_top rfl) (adr_at lki)) (EV.nm 8) (mat_get rfl lki) (row_at lkj)) EV.int) (EV.mulL EV.int (EV.intB (EV.cm (EV.ixC (n := 1 + 1 + ki) (ps := ((X.getD ki []).map D.int).map O.dat) (EV.ixC (n := 1) (EV.nm 5) (EV.nm 7) (mat_top rfl) (adr_at lki)) (EV.nm 8) (mat_get rfl lki) (row_at lkj)) EV.int CS.ltI) W.b.int) (by decide))) (EG.sub (n := 1 + 1 + ki) (ps := ((X.getD ki []).map D.int).map O.dat) (EV.ixC (n := 1) (EV.nm 5) (EV.nm 7) (mat_top rfl) (adr_at lki)) (EV.nm 8) (mat_get rfl lki) (ixN_of (by rw [row_len]; exact lkj)))) ?_) ?_
  · show Out.nx _ (([rowC (dl 2 ns)] ++ matC 1 X ++ matC (2 + X.length) N).set (1 + 1 + ki) (some ((((X.getD ki []).map D.int).map O.dat).set kj (.dat (.int (bump ((X.getD ki []).getD kj 0))))))) = _
    rw [row_set, mat_set (pre := [rowC (dl 2 ns)]) (b := 1) rfl lki]
    rfl
  refine SB.cons (ST.no (ET.to (ET.cm (EV.nm 1) (EV.lst (ds := ([1, 2, 10] : List Int).map D.int) (EA.cons EV.int (EA.cons EV.int (EA.cons EV.int EA.nil))) (by decide)) CS.inI) (qu_kind hq)) SB.nil) ?_
  refine SB.cons (ST.set 4 (EV.lend (ds := [.int c, lM (bumpM X ki kj), lM N]) (ok_law_due W) (EA.cons (EV.nm 1) (EA.cons (EV.nm 5) (EA.cons (EV.nm 6) EA.nil))) (.cons (.dat _) (.cons (mat_view rfl) (.cons (mat_view' (pre_len hbl)) .nil))) ⟨_, _, _, _, rfl, rfl, rfl, rfl, c, (bumpM X ki kj), _, rfl, isM_l hbx, hyB, hq'⟩ (qu_ans hq').noL) c_law_asked.nd) (SB.to (SB.one (ST.ret (EV.c2 s1 (EV.lend (ds := [.int c, lM (bumpM X ki kj), lM N]) (ok_law_near W) (EA.cons (EV.nm 1) (EA.cons (EV.nm 5) (EA.cons (EV.nm 6) EA.nil))) (.cons (.dat _) (.cons (mat_view rfl) (.cons (mat_view' (pre_len hbl)) .nil))) ⟨_, _, _, _, rfl, rfl, rfl, rfl, c, (bumpM X ki kj), _, rfl, isM_l hbx, hyB, hq'⟩ (qu_ans hq').noL) (EV.nm 4) ⟨rfl, (qu_ans hq').fit, rfl⟩))) ?_)
  rw [List.append_assoc]
theorem asked_k (W : Wd g) {c : Int} {x y : D} {X : List (List Int)} {k : Int} {r : D} {ns : List Int} (hx : IsM x X) (hy : IsA y (.k k)) (hq : Qu c X (.k k) r) :
    ∃ J, SB (mkC g n_law_asked s_law_asked 9) (defBody s_law_asked) (pad n_law_asked [.adr 0, .dat (.int c), .dat x, .dat y]) [rowC ns] (.rt (.dat (.bl true)) ([rowC (dl 2 ns)] ++ J)) := by
  have hk : True := True.intro
  have T := ok_law_take W
  have x1 := hx.1.l1
  have x8 := hx.1.l8
  have w1 := hx.1.w1
  have w8 := hx.1.w8
  have pi := tk_pos (ns := ns) (b := (X.length : Int)) (by omega)
  have pj := tk_pos (ns := dl 1 ns) (b := (wd X : Int)) (by omega)
  obtain ⟨ki, eki⟩ : ∃ ki : Nat, tk ns X.length = (ki : Int) := ⟨(tk ns X.length).toNat, by omega⟩
  obtain ⟨kj, ekj⟩ : ∃ kj : Nat, tk (dl 1 ns) (wd X) = (kj : Int) := ⟨(tk (dl 1 ns) (wd X)).toNat, by omega⟩
  have lki : ki < X.length := by omega
  have lkw : kj < wd X := by omega
  have lkj : kj < (X.getD ki []).length := by rw [hx.1.len lki]; exact lkw
  obtain ⟨hbx, hbl, hbw⟩ := bumpM_ok hx.1 lki lkw
  obtain ⟨r', hq'⟩ := qu_bump hq hbx hbl hbw
  have hyL : IsA (.int k) (.k k) := isA_L hy
  have hyT : IsA (.int k) (.k k) := isA_T hy
  have hyB : IsA (.int k) (.k k) := rfl
  have s1 := ok_law_like W 3
  refine ⟨matC 1 (bumpM X ki kj) ++ [], SB.cons (ST.set 4 (EV.c3 (ok_law_due W) (EV.nm 1) (EV.nm 2) (EV.nm 3) ⟨c, X, _, rfl, hx, hy, hq⟩) c_law_asked.nd) (SB.cons (ST.no (ET.to (ET.not (ET.val (EV.c2 s1 (EV.c3 (ok_law_near W) (EV.nm 1) (EV.c1 (ok_law_firm2 W) (EV.nm 2) ⟨X, hx, rfl⟩) (EV.c1 (ok_law_firm0 W) (EV.nm 3) ⟨k, hy, rfl⟩) ⟨c, X, _, rfl, isM_t hx.1, hyT, hq⟩) (EV.nm 4) ⟨rfl, (qu_ans hq).fit, rfl⟩))) rfl) SB.nil) (SB.cons
    (ST.set 5 (EV.callM (ds := [x]) (o := .adr 1) (M2 := [rowC ns] ++ matC 1 X) (ok_law_looseC2 W) (EA.cons (EV.nm 2) EA.nil) ⟨x, X, hx, rfl, rfl, rfl, rfl⟩ rfl (by congr 1; exact (matC_ren 1 X).symm)) c_law_asked.nd) (SB.cons (E1 := [.adr 0, .dat (.int c), .dat x, .dat y, .dat r, .adr 1, .dat (.int k), .no, .no]) (M1 := [rowC (ns)] ++ matC 1 (X) ++ []) (ST.to (ST.set 6 (EV.c1 (ok_law_loose0 W) (EV.nm 3) ⟨k, hy, rfl⟩) c_law_asked.nd) (congrArg (Out.nx _) (List.append_nil _).symm)) ?_)))⟩
  refine SB.cons (ST.no (ET.to (ET.not (ET.val (EV.c2 s1 (EV.lend (ds := [.int c, lM X, .int k]) (ok_law_near W) (EA.cons (EV.nm 1) (EA.cons (EV.nm 5) (EA.cons (EV.nm 6) EA.nil))) (.cons (.dat _) (.cons (mat_view rfl) (.cons (.dat _) .nil))) ⟨_, _, _, _, rfl, rfl, rfl, rfl, c, X, _, rfl, isM_l hx.1, hyL, hq⟩ (qu_ans hq).noL) (EV.nm 4) ⟨rfl, (qu_ans hq).fit, rfl⟩))) rfl) SB.nil) ?_
  refine SB.cons (ST.no (ET.to (EW.et (EW.or (k1 := false) (ET.to (ET.not (ET.val (EV.lend (ds := [lM X, lM X]) (d := .bl true) s1 (EA.cons (EV.nm 5) (EA.cons (EV.c1 (ok_law_loose2 W) (EV.nm 2) ⟨X, hx, rfl⟩) EA.nil)) (.cons (mat_view rfl) (.cons (.dat _) .nil)) ⟨_, _, _, rfl, rfl, rfl, rfl, rfl, fitMl hx.1.sm.1 hx.1.sm.2.2, rfl⟩ (.bl true)))) rfl) (fun _ => EW.or1 (ET.not (ET.val (EV.lend (ds := [.int k, .int k]) (d := .bl true) s1 (EA.cons (EV.nm 6) (EA.cons (EV.c1 (ok_law_loose0 W) (EV.nm 3) ⟨k, hy, rfl⟩) EA.nil)) (.cons (.dat _) (.cons (.dat _) .nil)) ⟨_, _, _, rfl, rfl, rfl, rfl, rfl, True.intro, rfl⟩ (.bl true))))) (fun z => nomatch z))) rfl) SB.nil) ?_
  refine SB.cons (E1 := [.adr 0, .dat (.int c), .dat x, .dat y, .dat r, .adr 1, .dat (.int k), .dat (.int (ki : Int)), .no]) (M1 := [rowC (dl 1 ns)] ++ matC 1 (X) ++ []) (ST.set 7 (EV.to (ev_tk (ns := ns) (j := (X.length : Int)) T (EV.nm 0) (EV.to (EV.lenC (nn := 1) (EV.nm 5) (mat_top rfl) W.b.len) (by rw [adr_len])) rfl (by omega)) (by rw [eki])) c_law_asked.nd) ?_
  refine SB.cons (E1 := [.adr 0, .dat (.int c), .dat x, .dat y, .dat r, .adr 1, .dat (.int k), .dat (.int (ki : Int)), .dat (.int (kj : Int))]) (M1 := [rowC (dl 2 ns)] ++ matC 1 (X) ++ []) (ST.set 8 (EV.to (ev_tk (ns := dl 1 ns) (j := (wd X : Int)) T (EV.nm 0) (EV.to (EV.lenC (nn := 1 + 1 + 0) (EV.ixC (n := 1) (EV.nm 5) EV.int (mat_top rfl) (adr_at (i := 0) hx.1.z)) (mat_get rfl hx.1.z) W.b.len) (by rw [row_len, ← wd_get])) rfl (by omega)) (by rw [ekj])) c_law_asked.nd) ?_
  refine SB.cons (E1 := [.adr 0, .dat (.int c), .dat x, .dat y, .dat r, .adr 1, .dat (.int k), .dat (.int (ki : Int)), .dat (.int (kj : Int))]) (M1 := [rowC (dl 2 ns)] ++ matC 1 (bumpM X ki kj) ++ []) (ST.to (ST.asg (EV.add (EV.sub (EV.ixC (n := 1 + 1 + ki) (ps := ((X.getD ki []).map D.int).map O.dat) (EV.ixC (n := 1) (EV.nm 5) (EV.nm 7) (mat_top rfl) (adr_at lki)) (EV.nm 8) (mat_get rfl lki) (row_at lkj)) EV.int) (EV.mulL EV.int (EV.intB (EV.cm (EV.ixC (n := 1 + 1 + ki) (ps := ((X.getD ki []).map D.int).map O.dat) (EV.ixC (n := 1) (EV.nm 5) (EV.nm 7) (mat_top rfl) (adr_at lki)) (EV.nm 8) (mat_get rfl lki) (row_at lkj)) EV.int CS.ltI) W.b.int) (by decide))) (EG.sub (n := 1 + 1 + ki) (ps := ((X.getD ki []).map D.int).map O.dat) (EV.ixC (n := 1) (EV.nm 5) (EV.nm 7) (mat_top rfl) (adr_at lki)) (EV.nm 8) (mat_get rfl lki) (ixN_of (by rw [row_len]; exact lkj)))) ?_) ?_
  · show Out.nx _ (([rowC (dl 2 ns)] ++ matC 1 X ++ []).set (1 + 1 + ki) (some ((((X.getD ki []).map D.int).map O.dat).set kj (.dat (.int (bump ((X.getD ki []).getD kj 0))))))) = _
    rw [row_set, mat_set (pre := [rowC (dl 2 ns)]) (b := 1) rfl lki]
    rfl
  refine SB.cons (ST.no (ET.to (ET.cm (EV.nm 1) (EV.lst (ds := ([1, 2, 10] : List Int).map D.int) (EA.cons EV.int (EA.cons EV.int (EA.cons EV.int EA.nil))) (by decide)) CS.inI) (qu_kind hq)) SB.nil) ?_
  refine SB.cons (ST.set 4 (EV.lend (ds := [.int c, lM (bumpM X ki kj), .int k]) (ok_law_due W) (EA.cons (EV.nm 1) (EA.cons (EV.nm 5) (EA.cons (EV.nm 6) EA.nil))) (.cons (.dat _) (.cons (mat_view rfl) (.cons (.dat _) .nil))) ⟨_, _, _, _, rfl, rfl, rfl, rfl, c, (bumpM X ki kj), _, rfl, isM_l hbx, hyB, hq'⟩ (qu_ans hq').noL) c_law_asked.nd) (SB.to (SB.one (ST.ret (EV.c2 s1 (EV.lend (ds := [.int c, lM (bumpM X ki kj), .int k]) (ok_law_near W) (EA.cons (EV.nm 1) (EA.cons (EV.nm 5) (EA.cons (EV.nm 6) EA.nil))) (.cons (.dat _) (.cons (mat_view rfl) (.cons (.dat _) .nil))) ⟨_, _, _, _, rfl, rfl, rfl, rfl, c, (bumpM X ki kj), _, rfl, isM_l hbx, hyB, hq'⟩ (qu_ans hq').noL) (EV.nm 4) ⟨rfl, (qu_ans hq').fit, rfl⟩))) ?_)
  rw [List.append_assoc]
theorem ok_law_asked (W : Wd g) : FN g "_law_asked" 10 askR := by
  refine FN.mkJ W.t_law_asked c_law_asked (fun _ _ _ _ _ _ us hl => match us, hl with | [_, _, _, _], _ => rfl) (fun os M o M' h => by obtain ⟨c, x, y, X, A, r, ns, _, _, _, rfl, _⟩ := h; rfl) (fun os M o M' h => ?_)
  obtain ⟨c, x, y, X, A, r, ns, hx, hy, hq, rfl, rfl, rfl, rfl⟩ := h
  refine ⟨Nat.le_refl _, True.intro, lowR, ?_⟩
  cases A with
  | v v => exact asked_v W hx hy hq
  | m n => exact asked_m W hx hy hq
  | k k => exact asked_k W hx hy hq
end
/-! ### draws -/
section
variable {g : Pg}
theorem chain {S : Type} {P : Nat → S → S → Prop} {I : Nat → S → Prop} {n : Nat} (h : ∀ i, i < n → ∀ s, I i s → ∃ s', P i s s' ∧ I (i + 1) s') (s0 : S) (h0 : I 0 s0) : ∃ f : Nat → S, f 0 = s0 ∧ (∀ i, i ≤ n → I i (f i)) ∧ ∀ i, i < n → P i (f i) (f (i + 1)) := by
  induction n with
  | zero => exact ⟨fun _ => s0, rfl, fun i hi => by rw [Nat.le_zero.mp hi]; exact h0, fun i hi => absurd hi (Nat.not_lt_zero i)⟩
  | succ n ih =>
    obtain ⟨f, f0, f1, f2⟩ := ih fun i hi => h i (by omega)
    obtain ⟨s', p1, p2⟩ := h n (Nat.lt_succ_self n) (f n) (f1 n (Nat.le_refl n))
    refine ⟨fun i => if i ≤ n then f i else s', by show (if 0 ≤ n then f 0 else s') = s0; rw [if_pos (Nat.zero_le _)]; exact f0, fun i hi => ?_, fun i hi => ?_⟩
    · by_cases hin : i ≤ n
      · simp only [if_pos hin]
        exact f1 i hin
      · have : i = n + 1 := by omega
        subst this
        simp only [if_neg hin]
        exact p2
    · by_cases hin : i < n
      · simp only [if_pos (show i ≤ n by omega), if_pos (show i + 1 ≤ n by omega)]
        exact f2 i hin
      · have : i = n := by omega
        subst this
        simp only [if_pos (Nat.le_refl i), if_neg (show ¬ i + 1 ≤ i by omega)]
        exact p1
def dig (t : List Int) (n : Int) : Nat → List Int × Int
  | 0 => (t, n)
  | k + 1 => ((dig t n k).1 ++ [(dig t n k).2 % 1000], (dig t n k).2 / 1000)
theorem dig_len {t : List Int} {n : Int} : ∀ k, (dig t n k).1.length = t.length + k
  | 0 => rfl
  | k + 1 => by
    show ((dig t n k).1 ++ [_]).length = _
    rw [List.length_append, dig_len k, List.length_singleton]
    omega
theorem cutD_map {α β : Type} {f : α → β} {xs : List α} {lo hi : Option Int} : cutD (xs.map f) lo hi = (cutD xs lo hi).map f := by
  unfold cutD
  rw [List.length_map, List.map_take, List.map_drop]
theorem cut63 {α : Type} {xs : List α} (h : xs.length ≤ 63) : cutD xs none (some 63) = xs := by
  refine cutD_all rfl ?_
  show HT.sIx xs.length xs.length (some ((63 : Nat) : Int)) = _
  rw [HT.sIx_nat]
  omega
abbrev db : List Stmt := defBody s_law_draws
theorem draws_run (W : Wd g) {o0 : O} {ns : List Int} (hs : Scr g.K o0 (ns.map V.int)) (hn : o0 ≠ .no) (hl : ns.length ≤ 63) : ∃ res : List Int, SB (mkC g n_law_draws s_law_draws 0) db (pad n_law_draws [o0, .dat (.int 760)]) [] (.rt (.adr 1) [none, rowC res]) := by
  have hcut : cutD (ns.map D.int) none (some 63) = ns.map D.int := cut63 (by rw [List.length_map]; exact hl)
  have hnl : (ns.map D.int).length = ns.length := List.length_map _
  have slice : ∀ {E : List O} {M : Mem} {p p1 p2 q : Pos} {j : Nat}, E[0]? = some o0 → EV (mkC g n_law_draws s_law_draws 0) (.Subscript (.Name "script" p1) (.Slice none (some (.Constant (.int 63) j q)) none p2) p) E M (.dat (.lst (ns.map D.int))) M := fun {E M p p1 p2 q j} he => by
    have := EV.slS (C := mkC g n_law_draws s_law_draws 0) (pos := p) (p := p2) (EV.nm (M := M) (x := "script") (pos := p1) 0 rfl he hn) EO.none (EO.some (EV.int (pos := q) (j := j) (i := 63))) hs
    rw [hcut] at this
    exact this
  -- the first loop
  let E1 : List O := [o0, .dat (.int 760), .adr 0, .no, .no, .no, .no]
  obtain ⟨f, f0, fI, fP⟩ := chain (S := List Int) (n := ns.length) (I := fun i t => t.length ≤ 60 * i)
    (P := fun i t t' => ∃ E2, Fg E2 E1 ∧ SB (mkC g n_law_draws s_law_draws 0) (bodyOf (db.getD 1 (.Pass ⟨0, 0, 0, 0⟩))) (E1.set 3 (.dat (.int (ns.getD i 0)))) [rowC t] (.nx E2 [rowC t'])) (fun i hi t ht => by
      generalize ns.getD i 0 = z
      by_cases hz : 10 ^ 18 ≤ z
      · -- digits
        have hbr : ∃ m, m ≤ 60 ∧ (∀ k, k < m → ¬ ((dig t z k).2 = 0 ∨ 760 ≤ (dig t z k).1.length)) ∧ (m < 60 → ((dig t z m).2 = 0 ∨ 760 ≤ (dig t z m).1.length)) := by
          by_cases hex : ∃ m, m < 60 ∧ ((dig t z m).2 = 0 ∨ 760 ≤ (dig t z m).1.length)
          · obtain ⟨m, h1, h2⟩ := hex
            obtain ⟨k, k1, k2, k3⟩ := least (P := fun m => (dig t z m).2 = 0 ∨ 760 ≤ (dig t z m).1.length) m h2
            exact ⟨k, by omega, k3, fun _ => k2⟩
          · exact ⟨60, Nat.le_refl _, fun k hk h => hex ⟨k, hk, h⟩, fun h => absurd h (by omega)⟩
        obtain ⟨m, m1, m2, m3⟩ := hbr
        have hd := fun k => dig_len (t := t) (n := z) k
        have test : ∀ {k : Nat} {E : List O} {b : Bool}, E = [o0, .dat (.int 760), .adr 0, .dat (.int z), .dat (.int (dig t z k).2), .dat (.int (0 + (k : Int))), .no] → b = decide ((dig t z k).2 = 0 ∨ 760 ≤ (dig t z k).1.length) → ET (mkC g n_law_draws s_law_draws 0) (ifOf ((bodyOf ((thenOf ((bodyOf (db.getD 1 (.Pass ⟨0, 0, 0, 0⟩))).getD 1 (.Pass ⟨0, 0, 0, 0⟩))).getD 0 (.Pass ⟨0, 0, 0, 0⟩))).getD 0 (.Pass ⟨0, 0, 0, 0⟩))) E [rowC (dig t z k).1] b [rowC (dig t z k).1] := fun {k E b} he hb => by
          subst he
          refine ET.to (EW.et (EW.or (ET.cm (EV.nm 4) EV.int CS.eqI) (fun _ => EW.or1 (ET.cm (EV.lenC (nn := 0) (EV.nm 2) rfl W.b.len) (EV.nm 1) CS.geI)) (fun _ => rfl))) ?_
          rw [hb, row_len, Bool.eq_iff_iff]
          simp
          omega
        refine ⟨(dig t z m).1, ⟨[o0, .dat (.int 760), .adr 0, .dat (.int z), .no, .no, .no], ?_, SB.cons (ST.set 4 (EV.intI (EV.nm 3) W.b.int) c_law_draws.nd) (SB.one (ST.yes (ET.to (ET.cm (EV.nm 4) (EV.pow EV.int EV.int ⟨by decide, by decide, by decide⟩) CS.geI) (decide_eq_true hz)) (SB.one ?_)))⟩, ?_⟩
        · exact Fg.cons (Fg.cons (Fg.cons (Fg.no (Fg.refl))))
        · have base : ∀ {r : Out}, (m = 60 ∧ r = .nx [o0, .dat (.int 760), .adr 0, .dat (.int z), .dat (.int (dig t z 60).2), .no, .no] [rowC (dig t z 60).1] ∨ m < 60 ∧ r = .nx [o0, .dat (.int 760), .adr 0, .dat (.int z), .dat (.int (dig t z m).2), .dat (.int (0 + (m : Int))), .no] [rowC (dig t z m).1]) → ST (mkC g n_law_draws s_law_draws 0) ((thenOf ((bodyOf (db.getD 1 (.Pass ⟨0, 0, 0, 0⟩))).getD 1 (.Pass ⟨0, 0, 0, 0⟩))).getD 0 (.Pass ⟨0, 0, 0, 0⟩)) [o0, .dat (.int 760), .adr 0, .dat (.int z), .dat (.int z), .no, .no] [rowC t] r := fun {r} hr => by
            refine ST.for (m := m) (n := 60) (E_ := fun k => [o0, .dat (.int 760), .adr 0, .dat (.int z), .dat (.int (dig t z k).2), .no, .no]) (M_ := fun k => [rowC (dig t z k).1]) (EI.rng1 EV.int W.b.range (by decide)) Fg.refl rfl m1 (fun _ _ => True.intro) (fun k hk => ?_) ?_
            · refine ⟨_, _, [o0, .dat (.int 760), .adr 0, .dat (.int z), .dat (.int (dig t z (k + 1)).2), .dat (.int (0 + (k : Int))), .no], EG.nm 5 c_law_draws.nd, ?_, .inl ?_⟩
              · exact Fg.cons (Fg.cons (Fg.cons (Fg.cons (Fg.cons (Fg.no Fg.refl)))))
              · refine SB.cons (ST.no (test (b := false) rfl (decide_eq_false (m2 k hk)).symm) SB.nil) (SB.cons (E1 := [o0, .dat (.int 760), .adr 0, .dat (.int z), .dat (.int (dig t z k).2), .dat (.int (0 + (k : Int))), .no]) (M1 := [rowC ((dig t z k).1 ++ [(dig t z k).2 % 1000])]) (ST.to (ST.exp (EV.append (n := 0) (ps := ((dig t z k).1.map D.int).map O.dat) (EV.nm 2) (EV.mod (EV.intI (EV.nm 4) W.b.int) EV.int (by decide)) rfl rfl (by rw [row_len, hd]; omega))) ?_) (SB.one (ST.set 4 (EV.to (EV.div (EV.nm 4) EV.int ⟨by decide, by decide⟩) rfl) c_law_draws.nd)))
                show Out.nx _ [some _] = Out.nx _ [rowC ((dig t z k).1 ++ [(dig t z k).2 % 1000])]
                rw [rowC_app]
                rfl
            · rcases hr with ⟨rfl, rfl⟩ | ⟨h60, rfl⟩
              · exact .inl ⟨rfl, rfl⟩
              · exact .inr ⟨h60, _, _, EG.nm 5 c_law_draws.nd, .inr ⟨_, _, SB.stop (ST.yes (test (b := true) rfl (decide_eq_true (m3 h60)).symm) (SB.one ST.brk)), rfl⟩⟩
          by_cases h60 : m < 60
          · refine ST.forget (base (.inr ⟨h60, rfl⟩)) ?_
            exact Fg.cons (Fg.cons (Fg.cons (Fg.cons (Fg.no (Fg.no Fg.refl)))))
          · have e : m = 60 := by omega
            subst e
            refine ST.forget (base (.inl ⟨rfl, rfl⟩)) ?_
            exact Fg.cons (Fg.cons (Fg.cons (Fg.cons (Fg.no Fg.refl))))
        · rw [hd]; omega
      · refine ⟨t, ⟨_, ?_, SB.cons (ST.set 4 (EV.intI (EV.nm 3) W.b.int) c_law_draws.nd) (SB.one (ST.no (ET.to (ET.cm (EV.nm 4) (EV.pow EV.int EV.int ⟨by decide, by decide, by decide⟩) CS.geI) (decide_eq_false hz)) SB.nil))⟩, by omega⟩
        exact Fg.cons (Fg.cons (Fg.cons (Fg.no (Fg.no Fg.refl))))) [] (by simp)
  -- the second one
  let E2 : Int → List O := fun s => [o0, .dat (.int 760), .adr 0, .no, .no, .no, .dat (.int s)]
  obtain ⟨u, u0, uI, uP⟩ := chain (S := Int) (n := ns.length) (I := fun i s => 0 ≤ s ∧ s < 2147483647)
    (P := fun i s s' => ∃ E', Fg E' (E2 s') ∧ SB (mkC g n_law_draws s_law_draws 0) (bodyOf (db.getD 3 (.Pass ⟨0, 0, 0, 0⟩))) ((E2 s).set 5 (.dat (.int (0 + (i : Int))))) [rowC (f ns.length)] (.nx E' [rowC (f ns.length)])) (fun i hi s hs' => by
      refine ⟨(s * s + ns.getD i 0 % 999999937 + (i : Int) + 1) % 2147483647, ⟨_, ?_, SB.one (ST.set 6 (EV.mod (EV.add (EV.add (EV.add (EV.mul (EV.nm 6) (EV.nm 6) (mul_okL (by omega))) (EV.mod (EV.intI (EV.ixS (EV.nm 0 rfl rfl hn) (EV.nm 5) hs (by rw [Int.zero_add]; exact isV_ix (e := .lst (ns.map D.int)) rfl hi)) W.b.int) EV.int (by decide))) (EV.nm 5)) EV.int) EV.int (by decide)) c_law_draws.nd)⟩, Int.emod_nonneg _ (by decide), Int.emod_lt_of_pos _ (by decide)⟩
      rw [Int.zero_add]
      exact Fg.cons (Fg.cons (Fg.cons (Fg.cons (Fg.cons (Fg.no Fg.refl)))))) 40503 (by decide)
  -- the third one
  let E3 : Int × List Int → List O := fun s => [o0, .dat (.int 760), .adr 0, .no, .no, .no, .dat (.int s.1)]
  obtain ⟨v, v0, vI, vP⟩ := chain (S := Int × List Int) (n := 763) (I := fun i s => (0 ≤ s.1 ∧ s.1 < 2147483647) ∧ s.2.length ≤ 3780 + i)
    (P := fun i s s' => ∃ E', Fg E' (E3 s') ∧ SB (mkC g n_law_draws s_law_draws 0) (bodyOf (db.getD 4 (.Pass ⟨0, 0, 0, 0⟩))) ((E3 s).set 5 (.dat (.int (0 + (i : Int))))) [rowC s.2] (.nx E' [rowC s'.2])) (fun i hi s hs' => by
      obtain ⟨s, t⟩ := s
      obtain ⟨hs1, hs2⟩ := hs'
      simp only at hs1 hs2
      have hp : 0 ≤ (s * s + 5 * (0 + (i : Int)) + 3) % 2147483647 ∧ (s * s + 5 * (0 + (i : Int)) + 3) % 2147483647 < 2147483647 := ⟨Int.emod_nonneg _ (by decide), Int.emod_lt_of_pos _ (by decide)⟩
      have st : ∀ {r : Out} {rest : List Stmt}, SB (mkC g n_law_draws s_law_draws 0) ((bodyOf (db.getD 4 (.Pass ⟨0, 0, 0, 0⟩))).drop 1) [o0, .dat (.int 760), .adr 0, .no, .no, .dat (.int (0 + (i : Int))), .dat (.int ((s * s + 5 * (0 + (i : Int)) + 3) % 2147483647))] [rowC t] r → SB (mkC g n_law_draws s_law_draws 0) (bodyOf (db.getD 4 (.Pass ⟨0, 0, 0, 0⟩))) ((E3 (s, t)).set 5 (.dat (.int (0 + (i : Int))))) [rowC t] r := fun {r rest} h =>
        SB.cons (ST.set 6 (EV.mod (EV.add (EV.add (EV.mul (EV.nm 6) (EV.nm 6) (mul_okL (by omega))) (EV.mulL EV.int (EV.nm 5) (by decide))) EV.int) EV.int (by decide)) c_law_draws.nd) h
      by_cases h2 : (2 : Int) < 0 + (i : Int)
      · refine ⟨((s * s + 5 * (0 + (i : Int)) + 3) % 2147483647, t ++ [(s * s + 5 * (0 + (i : Int)) + 3) % 2147483647 / 64 % 1000]), ⟨[o0, .dat (.int 760), .adr 0, .no, .no, .dat (.int (0 + (i : Int))), .dat (.int ((s * s + 5 * (0 + (i : Int)) + 3) % 2147483647))], ?_, st (rest := []) (SB.one (ST.yes (ET.to (ET.cm (EV.nm 5) EV.int CS.gtI) (decide_eq_true h2)) (SB.one (ST.to (ST.exp (EV.append (n := 0) (ps := (t.map D.int).map O.dat) (EV.nm 2) (EV.mod (EV.div (EV.nm 6) EV.int ⟨by decide, by decide⟩) EV.int (by decide)) rfl rfl (by rw [row_len]; omega))) ?_))))⟩, hp, ?_⟩
        · exact Fg.cons (Fg.cons (Fg.cons (Fg.cons (Fg.cons (Fg.no Fg.refl)))))
        · show Out.nx _ [some _] = Out.nx _ [rowC (t ++ [_])]
          rw [rowC_app]
        · show (t ++ [_]).length ≤ _
          rw [List.length_append, List.length_singleton]
          omega
      · refine ⟨((s * s + 5 * (0 + (i : Int)) + 3) % 2147483647, t), ⟨_, ?_, st (rest := []) (SB.one (ST.no (ET.to (ET.cm (EV.nm 5) EV.int CS.gtI) (decide_eq_false h2)) SB.nil))⟩, hp, ?_⟩
        · exact Fg.cons (Fg.cons (Fg.cons (Fg.cons (Fg.cons (Fg.no Fg.refl)))))
        · show t.length ≤ _
          omega) (u ns.length, f ns.length) ⟨uI _ (Nat.le_refl _), by
      have := fI ns.length (Nat.le_refl _)
      show (f ns.length).length ≤ 3780 + 0
      omega⟩
  refine ⟨(cutD (v 763).2 none (some 760)).reverse, SB.cons (ST.set 2 (EV.cel EA.nil (by decide)) c_law_draws.nd) (SB.cons (ST.forN 3 (E_ := fun _ => E1) (M_ := fun i => [rowC (f i)]) (EI.lst (slice rfl)) ?_ (by rw [f0]; rfl) (fun _ _ => True.intro) c_law_draws.nd (fun i hi => ?_)) (SB.cons (ST.set 6 EV.int c_law_draws.nd) (SB.cons (ST.forN 5 (n := ((ns.length : Nat) : Int).toNat) (E_ := fun i => E2 (u i)) (M_ := fun i => [rowC (f ns.length)]) (EI.rng1 (EV.len (slice rfl) (by show some (ns.map D.int).length = some ns.length; rw [hnl]) W.b.len) W.b.range (by omega)) ?_ (by rw [hnl]) (fun _ _ => True.intro) c_law_draws.nd (fun i hi => ?_)) (SB.cons (ST.forN 5 (n := ((760 : Int) + 3).toNat) (E_ := fun i => E3 (v i)) (M_ := fun i => [rowC (v i).2]) (EI.rng1 (EV.add (EV.nm 1) EV.int) W.b.range (by decide)) ?_ (by rw [v0]) (fun _ _ => True.intro) c_law_draws.nd (fun i hi => ?_)) (SB.fz (jj := 2) (nn := 0) (ds := (v 763).2.map D.int) rfl rfl (SB.to (SB.one (ST.ret (EV.listRevN (EV.slL (EV.nm 2) EO.none (EO.some (EV.nm 1))) W.b.list W.b.reversed))) ?_))))))⟩
  · exact Fg.refl
  · rw [hnl] at hi
    have e : atO (ns.map D.int) i = .dat (.int (ns.getD i 0)) := by
      rw [atO_map hi, List.getD_eq_getElem?_getD, List.getElem?_eq_getElem hi]
      rfl
    rw [e]
    exact fP i hi
  · rw [u0]
    exact Fg.refl
  · exact uP i (by omega)
  · rw [v0]
    exact Fg.refl
  · exact vP i hi
  · rw [cutD_map, ← List.map_reverse]
    rfl
def drawsR (g : Pg) : Rel := fun os M o M' => ∃ (o0 : O) (res : List Int), SB (mkC g n_law_draws s_law_draws 0) db (pad n_law_draws [o0, .dat (.int 760)]) [] (.rt (.adr 1) [none, rowC res]) ∧ os = [o0, .dat (.int 760)] ∧ M = [] ∧ o = .adr 1 ∧ M' = [none, rowC res]
theorem ok_law_draws (W : Wd g) : FN g "_law_draws" 1 (drawsR g) := by
  refine FN.mk W.t_law_draws c_law_draws (fun _ _ _ _ _ _ us hl => match us, hl with | [_, _], _ => rfl) (fun os M o M' h => by obtain ⟨o0, res, _, rfl, _⟩ := h; rfl) (fun os M o M' h => ?_)
  obtain ⟨o0, res, h, rfl, rfl, rfl, rfl⟩ := h
  exact h
end
/-! ### the law -/
section
variable {g : Pg}
theorem mixDraws {res : List Int} : Mix [] [] [] [none, rowC res] [none, rowC res] := by
  refine ⟨rfl, List.nodup_nil, rfl, fun i k h => by simp at h, fun k os h => ?_⟩
  match k, h with
  | 1, h =>
    have e : ((res.map D.int).map O.dat) = os := Option.some.inj (Option.some.inj h)
    subst e
    exact .inr ⟨1, _, rfl, .inr (Nat.zero_le _), rfl, (ren_dat _).symm⟩
  | k + 2, h => simp at h
theorem mixFit {ns ns' : List Int} {P : List (List (List Int))} : Mix [1, 2] [none, rowC ns, poolC P] [rowC ns, poolC P] [rowC ns', poolC P] [none, rowC ns', poolC P] := by
  refine ⟨rfl, by decide, rfl, fun i k h => ?_, fun k os h => ?_⟩
  · match i, h with
    | 0, h =>
      cases h
      show some (rowC ns) = some (some (((ns.map D.int).map O.dat).map _))
      rw [ren_dat]
    | 1, h =>
      cases h
      show some (poolC P) = some (some (((P.map lM).map O.dat).map _))
      rw [ren_dat]
    | i + 2, h => simp at h
  · match k, h with
    | 1, h =>
      have e : ((ns'.map D.int).map O.dat) = os := Option.some.inj (Option.some.inj h)
      subst e
      exact .inr ⟨0, _, rfl, .inl (by decide), rfl, (ren_dat _).symm⟩
    | 2, h =>
      have e : ((P.map lM).map O.dat) = os := Option.some.inj (Option.some.inj h)
      subst e
      exact .inr ⟨1, _, rfl, .inl (by decide), rfl, (ren_dat _).symm⟩
    | k + 3, h => simp at h
/-- the first question -/
abbrev Fst := Option (Int × List (List Int) × Ar)
def fD : Fst → D
  | none => .non
  | some (c, X, A) => .tup [.int c, tM X, A.T]
theorem qu_tab {c : Int} {X : List (List Int)} {A : Ar} {r : D} (h : Qu c X A r) (hA : A.isV = false) : ∃ R, r = tM R ∧ 1 ≤ R.length ∧ 1 ≤ wd R ∧ ∀ q ∈ R, q.length = wd R := by
  have key : ∀ {R : List (List Int)} {w : Nat}, 1 ≤ R.length → 1 ≤ w → (∀ q ∈ R, q.length = w) → 1 ≤ R.length ∧ 1 ≤ wd R ∧ ∀ q ∈ R, q.length = wd R := fun {R w} h1 h2 h3 => by
    have hw : wd R = w := by
      rw [wd_get]
      exact h3 _ (mem_getD (by omega))
    exact ⟨h1, by omega, fun q hq => by rw [h3 q hq, hw]⟩
  have hx := h.mx
  have x1 := hx.l1
  have w1 := hx.w1
  have hr := hx.rect
  have hbI : ∀ {n w : Nat} {f : Nat → Nat → Int}, 1 ≤ n → 1 ≤ w → 1 ≤ (byI n w f).length ∧ 1 ≤ wd (byI n w f) ∧ ∀ q ∈ byI n w f, q.length = wd (byI n w f) := fun {n w f} h1 h2 => key (w := w) (by rw [byI_len]; exact h1) h2 fun q hq => by
    obtain ⟨i, _, rfl⟩ := List.mem_map.mp hq
    rw [List.length_map, List.length_range]
  cases h with
  | q0 _ hn h => exact ⟨_, rfl, by rw [mulM_by hx hn h]; exact hbI x1 hn.w1⟩
  | q1 => cases hA
  | q2 => cases hA
  | q3 _ hn => exact ⟨_, rfl, by rw [flip_by]; exact hbI w1 x1⟩
  | q4 _ hn h h2 => exact ⟨_, rfl, by rw [addM_by hx hn h h2]; exact hbI x1 w1⟩
  | q5 _ hn h h2 => exact ⟨_, rfl, by rw [subM_by hx hn h h2]; exact hbI x1 w1⟩
  | q6 _ h =>
    refine ⟨_, rfl, key (w := wd X) (by unfold manyM; rw [List.length_map]; exact x1) w1 fun q hq => ?_⟩
    obtain ⟨s, hs, rfl⟩ := List.mem_map.mp hq
    rw [List.length_map, hr s hs]
  | q7 _ h => exact ⟨_, rfl, by rw [unit_by]; exact hbI h.1 h.1⟩
  | q8 _ hn h =>
    refine ⟨_, rfl, key (w := wd X) (by rw [List.length_append]; omega) w1 fun q hq => ?_⟩
    rcases List.mem_append.mp hq with q' | q'
    · exact hr q q'
    · rw [hn.rect q q', h]
  | @q9 _ N _ hn h =>
    refine ⟨_, rfl, key (w := wd X + wd N) (by unfold besM; rw [List.length_map, List.length_zip]; omega) (by omega) fun q hq => ?_⟩
    obtain ⟨s, hs, rfl⟩ := List.mem_map.mp hq
    rw [List.length_append, hr _ (List.of_mem_zip hs).1, hn.rect _ (List.of_mem_zip hs).2]
  | q10 => cases hA
abbrev lb : List Stmt := defBody s_law
abbrev C11 (g : Pg) : Cc := mkC g n_law s_law 10
theorem pool_app {P : List (List (List Int))} {N : List (List Int)} : (some (((P.map lM).map O.dat) ++ [O.dat (lM N)]) : Option (List O)) = poolC (P ++ [N]) := by
  show _ = some _
  rw [List.map_append, List.map_append]
  rfl
theorem pool_len {P : List (List (List Int))} : ((P.map lM).map O.dat).length = P.length := by rw [List.length_map, List.length_map]
abbrev lE (o0 : O) (w : Bool) (mo : Int) (k st fi c x y d : O) : List O := [o0, .adr 1, .dat (.bl w), .dat (.int mo), .adr 2, k, st, fi, c, x, y, d]
/-- a pool's matrix more -/
theorem law_pool (W : Wd g) {o0 : O} {w : Bool} {mo : Int} (hmo : mo = 4 ∨ mo = 8) {k : O} {ns : List Int} {P : List (List (List Int))} (hPl : P.length < 40000) : ∃ ns' N, Mx N ∧ SB (C11 g) (bodyOf (lb.getD 4 (.Pass ⟨0, 0, 0, 0⟩))) (lE o0 w mo k .no .no .no .no .no .no) [none, rowC ns, poolC P] (.nx (lE o0 w mo k .no .no .no .no .no .no) [none, rowC ns', poolC (P ++ [N])]) := by
  have T := ok_law_take W
  have p1 := tk_pos (ns := ns) (b := mo) (by omega)
  have p2 := tk_pos (ns := dl 1 ns) (b := mo) (by omega)
  obtain ⟨a, ea⟩ : ∃ a : Nat, 1 + tk ns mo = (a : Int) := ⟨(1 + tk ns mo).toNat, by omega⟩
  obtain ⟨b, eb⟩ : ∃ b : Nat, 1 + tk (dl 1 ns) mo = (b : Int) := ⟨(1 + tk (dl 1 ns) mo).toNat, by omega⟩
  have la : 1 ≤ a ∧ a ≤ 8 := by omega
  have lb' : 1 ≤ b ∧ b ≤ 8 := by omega
  refine ⟨(drawF (dl 2 ns) a b w).2, (drawF (dl 2 ns) a b w).1, (drawF_mx la lb').1, SB.one (ST.to (ST.exp (EV.append (n := 2) (ps := (P.map lM).map O.dat) (M1 := [none, rowC ns, poolC P]) (EV.nm 4) (EV.call1' (n := 1) (ds := [.int (a : Int), .int (b : Int), .bl w]) (cs := (dl 2 ns).map D.int) (cs' := (drawF (dl 2 ns) a b w).2.map D.int) (M1 := [none, rowC (dl 2 ns), poolC P]) (ok_law_drawn W) (EA.cons (EV.nm 1) (EA.cons (EV.to (EV.add EV.int (ev_tk (ns := ns) (M' := [none, rowC (dl 1 ns), poolC P]) T (EV.nm 1) (EV.nm 3) rfl (by omega))) (by rw [ea])) (EA.cons (EV.to (EV.add EV.int (ev_tk (ns := dl 1 ns) (M' := [none, rowC (dl 2 ns), poolC P]) T (EV.nm 1) (EV.nm 3) rfl (by omega))) (by rw [eb])) (EA.cons (EV.nm 2) EA.nil)))) rfl ⟨_, a, b, w, la, lb', rfl, rfl, rfl, rfl⟩) rfl rfl (by rw [pool_len]; omega))) ?_)⟩
  show Out.nx _ [none, rowC _, some _] = _
  rw [pool_app]
theorem firmA (W : Wd g) {A : Ar} {d : D} {E : List O} {M M' : Mem} {a : Expr} {p pos : Pos} (h : IsA d A) (ha : EV (C11 g) a E M (.dat d) M') (he : ∀ env, starEach [a] env = (false, eval a env) :: starEach [] env := by intro _; rfl) : EV (C11 g) (.Call (.Name "_law_firm" p) [a] [] pos) E M (.dat A.T) M' := by
  cases A with
  | v v => exact EV.c1 (ok_law_firm1 W) ha ⟨v, h.2, by have := h.1.l8; omega, rfl⟩ rfl rfl (by decide) he
  | m n => exact EV.c1 (ok_law_firm2 W) ha ⟨n, h, rfl⟩ rfl rfl (by decide) he
  | k k => exact EV.c1 (ok_law_firm0 W) ha ⟨k, h, rfl⟩ rfl rfl (by decide) he
def LawI (i : Nat) (s : List Int × List (List (List Int)) × Fst) : Prop := (1 ≤ s.2.1.length ∧ s.2.1.length ≤ 3 + i) ∧ (∀ N ∈ s.2.1, Mx N) ∧ (0 < i → s.2.2 ≠ none) ∧ ∀ c X A, s.2.2 = some (c, X, A) → ∃ r y, Qu c X A r ∧ IsA y A
theorem law_step (W : Wd g) {o0 : O} {w : Bool} {mo st : Int} (hst : 0 ≤ st ∧ st < 11) {i : Nat} (hi : i < 9) {s : List Int × List (List (List Int)) × Fst} (hs : LawI i s) : ∃ s', LawI (i + 1) s' ∧ ∃ E', Fg E' (lE o0 w mo .no (.dat (.int st)) (.dat (fD s'.2.2)) .no .no .no .no) ∧
    SB (C11 g) (bodyOf (lb.getD 7 (.Pass ⟨0, 0, 0, 0⟩))) (lE o0 w mo (.dat (.int (0 + (i : Int)))) (.dat (.int st)) (.dat (fD s.2.2)) .no .no .no .no) [none, rowC s.1, poolC s.2.1] (.nx E' [none, rowC s'.1, poolC s'.2.1]) := by
  obtain ⟨ns, P, fi⟩ := s
  obtain ⟨⟨hP1, hP2⟩, hPm, hf0, hfq⟩ := hs
  simp only at hP1 hP2 hPm hf0 hfq
  have T := ok_law_take W
  obtain ⟨c, ec⟩ : ∃ c, (st + 4 * (0 + (i : Int))) % 11 = c := ⟨_, rfl⟩
  have hc : 0 ≤ c ∧ c < 11 := by
    rw [← ec]
    exact ⟨Int.emod_nonneg _ (by decide), Int.emod_lt_of_pos _ (by decide)⟩
  have pt := tk_pos (ns := ns) (b := (P.length : Int)) (by omega)
  obtain ⟨kp, ekp⟩ : ∃ kp : Nat, tk ns P.length = (kp : Int) := ⟨(tk ns P.length).toNat, by omega⟩
  have lkp : kp < P.length := by omega
  obtain ⟨X, eX⟩ : ∃ X, P.getD kp [] = X := ⟨_, rfl⟩
  have hX : Mx X := by
    rw [← eX]
    exact hPm _ (mem_getD lkp)
  have hxL : IsM (lM X) X := isM_l hX
  obtain ⟨A, ns', r, hfi, hq⟩ := fits (c := c) (X := X) (P := P) (w := w) (ns := dl 1 ns) hc hX hPm
  have hyL : IsA A.L A := by
    cases hq with
    | q0 _ hn h => exact isM_l hn
    | q1 _ hv h => exact isV_l hv
    | q2 _ hv h => exact isV_l hv
    | q3 _ hn => exact isM_l hn
    | q4 _ hn h h2 => exact isM_l hn
    | q5 _ hn h h2 => exact isM_l hn
    | q6 _ h => exact rfl
    | q7 _ h => exact rfl
    | q8 _ hn h => exact isM_l hn
    | q9 _ hn h => exact isM_l hn
    | q10 _ hv => exact isV_l hv
  -- the last two statements
  have tail : ∀ (fi' : Fst) (n' : List Int), ∃ P', (1 ≤ P'.length ∧ P'.length ≤ P.length + 1) ∧ (∀ N ∈ P', Mx N) ∧ SB (C11 g) ((bodyOf (lb.getD 7 (.Pass ⟨0, 0, 0, 0⟩))).drop 5) (lE o0 w mo (.dat (.int (0 + (i : Int)))) (.dat (.int st)) (.dat (fD fi')) (.dat (.int c)) (.dat (lM X)) (.dat A.L) .no) [none, rowC n', poolC P]
      (.nx (lE o0 w mo (.dat (.int (0 + (i : Int)))) (.dat (.int st)) (.dat (fD fi')) (.dat (.int c)) (.dat (lM X)) (.dat A.L) (.dat r)) [none, rowC n', poolC P']) := fun fi' n' => by
    have due : ∀ {r' : Out}, SB (C11 g) ((bodyOf (lb.getD 7 (.Pass ⟨0, 0, 0, 0⟩))).drop 6) (lE o0 w mo (.dat (.int (0 + (i : Int)))) (.dat (.int st)) (.dat (fD fi')) (.dat (.int c)) (.dat (lM X)) (.dat A.L) (.dat r)) [none, rowC n', poolC P] r' → SB (C11 g) ((bodyOf (lb.getD 7 (.Pass ⟨0, 0, 0, 0⟩))).drop 5) (lE o0 w mo (.dat (.int (0 + (i : Int)))) (.dat (.int st)) (.dat (fD fi')) (.dat (.int c)) (.dat (lM X)) (.dat A.L) .no) [none, rowC n', poolC P] r' := fun {r'} h =>
      SB.cons (ST.set 11 (EV.c3 (ok_law_due W) (EV.nm 8) (EV.nm 9) (EV.nm 10) ⟨c, X, A, rfl, hxL, hyL, hq⟩) c_law.nd) h
    cases hA : A.isV with
    | true =>
      refine ⟨P, ⟨hP1, by omega⟩, hPm, due (SB.one (ST.no (ET.to (EW.et (EW.and (k1 := false) (k2 := true) (ET.to (ET.cm (EV.nm 8) (EV.lst (ds := ([1, 2, 10] : List Int).map D.int) (EA.cons EV.int (EA.cons EV.int (EA.cons EV.int EA.nil))) (by decide)) CS.notInI) (by rw [qu_kind hq, hA]; rfl)) (fun z => nomatch z) (fun _ => rfl))) rfl) SB.nil))⟩
    | false =>
      obtain ⟨R, rfl, hR1, hR2, hR3⟩ := qu_tab hq hA
      have h0 : ixD (tM R) ((0 : Nat) : Int) = some (tV (R.getD 0 [])) := ix_tM hR1
      have h0l : lenD (tV (R.getD 0 [])) = some (wd R) := by rw [wd_get]; exact len_tV
      have test : ET (C11 g) (ifOf ((bodyOf (lb.getD 7 (.Pass ⟨0, 0, 0, 0⟩))).getD 6 (.Pass ⟨0, 0, 0, 0⟩))) (lE o0 w mo (.dat (.int (0 + (i : Int)))) (.dat (.int st)) (.dat (fD fi')) (.dat (.int c)) (.dat (lM X)) (.dat A.L) (.dat (tM R))) [none, rowC n', poolC P] (decide (R.length ≤ 8 ∧ wd R ≤ 8 ∧ mostM R ≤ 1000000)) [none, rowC n', poolC P] := by
        refine ET.to (EW.et (EW.and (k1 := true) (ET.to (ET.cm (EV.nm 8) (EV.lst (ds := ([1, 2, 10] : List Int).map D.int) (EA.cons EV.int (EA.cons EV.int (EA.cons EV.int EA.nil))) (by decide)) CS.notInI) (by rw [qu_kind hq, hA]; rfl)) (fun _ => EW.and (ET.cm (EV.len (EV.nm 11) len_tM W.b.len) EV.int CS.leI) (fun _ => EW.and (ET.cm (EV.len (EV.ix (EV.nm 11) EV.int h0) h0l W.b.len) EV.int CS.leI) (fun _ => EW.and1 (ET.cm (EV.c1 (ok_law_most W) (EV.nm 11) ⟨R, rfl, rfl⟩) EV.int CS.leI)) (fun _ => rfl)) (fun _ => rfl)) (fun _ => rfl))) ?_
        rw [Bool.true_and, Bool.eq_iff_iff]
        simp
        omega
      by_cases hb : R.length ≤ 8 ∧ wd R ≤ 8 ∧ mostM R ≤ 1000000
      · have hRm : Mx R := ⟨hR1, hb.1, hR2, hb.2.1, hR3, fun q hq' x hx => by
          have := (mostF_le.mp hb.2.2).2 q hq' x hx
          omega⟩
        refine ⟨P ++ [R], ⟨by rw [List.length_append]; omega, by rw [List.length_append, List.length_singleton]; exact Nat.le_refl _⟩, fun N hN => ?_, due (SB.one (ST.yes (ET.to test (decide_eq_true hb)) (SB.one (ST.to (ST.exp (EV.append (n := 2) (ps := (P.map lM).map O.dat) (EV.nm 4) (EV.c1 (ok_law_loose2 W) (EV.nm 11) ⟨R, isM_t hRm, rfl⟩) rfl rfl (by rw [pool_len]; omega))) ?_))))⟩
        · rcases List.mem_append.mp hN with hN | hN
          · exact hPm N hN
          · rw [List.mem_singleton.mp hN]
            exact hRm
        · show Out.nx _ [none, rowC _, some _] = _
          rw [pool_app]
      · exact ⟨P, ⟨hP1, by omega⟩, hPm, due (SB.one (ST.no (ET.to test (decide_eq_false hb)) SB.nil))⟩
  have hat : atI ((P.map lM).map O.dat) (tk ns P.length) = some (.dat (lM X)) := by
    rw [ekp]
    refine atI_nat ?_
    rw [List.getElem?_map, List.getElem?_map, List.getElem?_eq_getElem lkp]
    rw [List.getD_eq_getElem?_getD, List.getElem?_eq_getElem lkp] at eX
    rw [← eX]
    rfl
  have front : ∀ {r' : Out}, SB (C11 g) ((bodyOf (lb.getD 7 (.Pass ⟨0, 0, 0, 0⟩))).drop 4) (lE o0 w mo (.dat (.int (0 + (i : Int)))) (.dat (.int st)) (.dat (fD fi)) (.dat (.int c)) (.dat (lM X)) (.dat A.L) .no) [none, rowC (dl 2 ns'), poolC P] r' → SB (C11 g) (bodyOf (lb.getD 7 (.Pass ⟨0, 0, 0, 0⟩))) (lE o0 w mo (.dat (.int (0 + (i : Int)))) (.dat (.int st)) (.dat (fD fi)) .no .no .no .no) [none, rowC ns, poolC P] r' := fun {r'} h =>
    SB.cons (ST.set 8 (EV.to (EV.mod (EV.intI (EV.add (EV.nm 6) (EV.mulL EV.int (EV.nm 5) (by decide))) W.b.int) EV.int (by decide)) (by rw [ec])) c_law.nd) (SB.cons (M1 := [none, rowC (dl 1 ns), poolC P]) (ST.set 9 (EV.ixC (n := 2) (ps := (P.map lM).map O.dat) (EV.nm 4) (ev_tk (ns := ns) T (EV.nm 1) (EV.to (EV.lenC (nn := 2) (EV.nm 4) rfl W.b.len) (by rw [pool_len])) rfl (by omega)) rfl hat) c_law.nd)
      (SB.cons (M1 := [none, rowC ns', poolC P]) (ST.set 10 (EV.callG (ι := [1, 2]) (os0 := [.adr 0, .dat (.int c), .dat (lM X), .adr 1, .dat (.bl w)]) (M0 := [rowC (dl 1 ns), poolC P]) (M0' := [rowC ns', poolC P]) (o0 := .dat A.L) (ok_law_fitting W) (EA.cons (EV.nm 1) (EA.cons (EV.nm 8) (EA.cons (EV.nm 9) (EA.cons (EV.nm 4) (EA.cons (EV.nm 2) EA.nil))))) ⟨c, lM X, X, P, w, dl 1 ns, A, ns', hxL, hPm, by omega, hfi, rfl, rfl, rfl, rfl⟩ rfl mixFit) c_law.nd)
      (SB.cons (M1 := [none, rowC (dl 2 ns'), poolC P]) (ST.no (ET.to (ET.not (ET.val (EV.call1' (n := 1) (ds := [.int c, lM X, A.L]) (cs := ns'.map D.int) (cs' := (dl 2 ns').map D.int) (ok_law_asked W) (EA.cons (EV.nm 1) (EA.cons (EV.nm 8) (EA.cons (EV.nm 9) (EA.cons (EV.nm 10) EA.nil)))) rfl ⟨c, lM X, A.L, X, A, r, ns', hxL, hyL, hq, rfl, rfl, rfl, rfl⟩))) rfl) SB.nil) h)))
  cases fi with
  | none =>
    obtain ⟨P', q1, q2, q3⟩ := tail (some (c, X, A)) (dl 2 ns')
    refine ⟨(dl 2 ns', P', some (c, X, A)), ⟨⟨q1.1, by show P'.length ≤ _; omega⟩, q2, (fun _ z => nomatch z), fun c' X' A' z => ?_⟩, _, ?_, front (SB.cons (ST.yes (ET.to (ET.isN (EV.nm 7)) rfl) (SB.one (ST.set 7 (EV.tup (ds := [.int c, tM X, A.T]) (EA.cons (EV.nm 8) (EA.cons (EV.c1 (ok_law_firm2 W) (EV.nm 9) ⟨X, hxL, rfl⟩) (EA.cons (firmA W hyL (EV.nm 10)) EA.nil))) (by show 3 ≤ 100000; decide)) c_law.nd))) q3)⟩
    · cases z
      exact ⟨r, A.L, hq, hyL⟩
    · exact Fg.cons (Fg.cons (Fg.cons (Fg.cons (Fg.cons (Fg.no (Fg.cons (Fg.cons (Fg.no (Fg.no (Fg.no (Fg.no Fg.nil)))))))))))
  | some q =>
    obtain ⟨P', q1, q2, q3⟩ := tail (some q) (dl 2 ns')
    refine ⟨(dl 2 ns', P', some q), ⟨⟨q1.1, by show P'.length ≤ _; omega⟩, q2, (fun _ z => nomatch z), hfq⟩, _, ?_, front (SB.cons (ST.no (ET.to (ET.isN (EV.nm 7)) (by obtain ⟨c', X', A'⟩ := q; rfl)) SB.nil) q3)⟩
    exact Fg.cons (Fg.cons (Fg.cons (Fg.cons (Fg.cons (Fg.no (Fg.cons (Fg.cons (Fg.no (Fg.no (Fg.no (Fg.no Fg.nil)))))))))))
end
section
variable {g : Pg}
theorem law_run (W : Wd g) {o0 : O} {ns : List Int} (hs : Scr g.K o0 (ns.map V.int)) (hn : o0 ≠ .no) (hl : ns.length ≤ 63) : ∃ M', SB (C11 g) lb (pad n_law [o0]) [] (.rt (.dat (.bl true)) M') := by
  have T := ok_law_take W
  have hren : ∀ ρ : Nat → Nat, o0.ren ρ = o0 := fun ρ => by
    obtain ⟨a, u, rfl, _⟩ := hs
    rfl
  obtain ⟨res, hres⟩ := draws_run W hs hn hl
  obtain ⟨w, hw⟩ : ∃ w, decide (tk res 3 = 0) = w := ⟨_, rfl⟩
  obtain ⟨mo, hmo⟩ : ∃ mo : Int, 4 + 4 * (if decide (tk (dl 1 res) 5 = 0) = true then 1 else 0) = mo := ⟨_, rfl⟩
  have hmo' : mo = 4 ∨ mo = 8 := by
    rw [← hmo]
    split
    · exact .inr rfl
    · exact .inl rfl
  obtain ⟨p, p0, pI, pP⟩ := chain (S := List Int × List (List (List Int))) (n := 3) (I := fun i s => s.2.length = i ∧ ∀ N ∈ s.2, Mx N)
    (P := fun i s s' => SB (C11 g) (bodyOf (lb.getD 4 (.Pass ⟨0, 0, 0, 0⟩))) (lE o0 w mo (.dat (.int (0 + (i : Int)))) .no .no .no .no .no .no) [none, rowC s.1, poolC s.2] (.nx (lE o0 w mo (.dat (.int (0 + (i : Int)))) .no .no .no .no .no .no) [none, rowC s'.1, poolC s'.2])) (fun i hi s hs' => by
      obtain ⟨ns', N, hN, hb⟩ := law_pool W (o0 := o0) (w := w) hmo' (k := .dat (.int (0 + (i : Int)))) (ns := s.1) (P := s.2) (by have := hs'.1; omega)
      refine ⟨(ns', s.2 ++ [N]), hb, by show (s.2 ++ [N]).length = _; rw [List.length_append, hs'.1]; rfl, fun Q hQ => ?_⟩
      rcases List.mem_append.mp hQ with hQ | hQ
      · exact hs'.2 Q hQ
      · rw [List.mem_singleton.mp hQ]
        exact hN) (dl 2 res, []) ⟨rfl, fun N hN => by simp at hN⟩
  obtain ⟨st, hst⟩ : ∃ st : Int, tk (p 3).1 11 = st := ⟨_, rfl⟩
  have hst' : 0 ≤ st ∧ st < 11 := by
    rw [← hst]
    exact tk_pos (by decide)
  obtain ⟨f, f0, fI, fP⟩ := chain (S := List Int × List (List (List Int)) × Fst) (n := 9) (I := LawI)
    (P := fun i s s' => ∃ E', Fg E' (lE o0 w mo .no (.dat (.int st)) (.dat (fD s'.2.2)) .no .no .no .no) ∧ SB (C11 g) (bodyOf (lb.getD 7 (.Pass ⟨0, 0, 0, 0⟩))) (lE o0 w mo (.dat (.int (0 + (i : Int)))) (.dat (.int st)) (.dat (fD s.2.2)) .no .no .no .no) [none, rowC s.1, poolC s.2.1] (.nx E' [none, rowC s'.1, poolC s'.2.1])) (fun i hi s hs' => by
      obtain ⟨s', h1, h2⟩ := law_step W (o0 := o0) (w := w) (mo := mo) hst' hi hs'
      exact ⟨s', h2, h1⟩) ((p 3).1.dropLast, (p 3).2, none) ⟨by have := (pI 3 (Nat.le_refl _)).1; show 1 ≤ (p 3).2.length ∧ (p 3).2.length ≤ 3 + 0; omega, (pI 3 (Nat.le_refl _)).2, fun z => absurd z (by decide), fun c X A z => nomatch z⟩
  obtain ⟨_, _, g0, gq⟩ := fI 9 (Nat.le_refl _)
  obtain ⟨⟨c, X, A⟩, hF⟩ : ∃ q, (f 9).2.2 = some q := by
    cases h : (f 9).2.2 with
    | none => exact absurd h (g0 (by decide))
    | some q => exact ⟨q, rfl⟩
  obtain ⟨r, y, hq, hy⟩ := gq c X A hF
  have hx := hq.mx
  have e1 : ixD (.tup [D.int c, tM X, A.T]) 0 = some (.int c) := atI_nat (j := 0) rfl
  have e2 : ixD (.tup [D.int c, tM X, A.T]) 1 = some (tM X) := atI_nat (j := 1) rfl
  have e3 : ixD (.tup [D.int c, tM X, A.T]) 2 = some A.T := atI_nat (j := 2) rfl
  have last : SB (C11 g) (lb.drop 8) (lE o0 w mo .no (.dat (.int st)) (.dat (.tup [.int c, tM X, A.T])) .no .no .no .no) [none, rowC (f 9).1, poolC (f 9).2.1] (.rt (.dat (.bl true)) [none, rowC (f 9).1, poolC (f 9).2.1]) :=
    SB.one (ST.ret (EV.c2 (ok_law_like W 3) (EV.c3 (ok_law_near W) (EV.ix (EV.nm 7) EV.int e1) (EV.ix (EV.nm 7) EV.int e2) (EV.ix (EV.nm 7) EV.int e3) ⟨c, X, A, rfl, isM_t hx, isA_T hy, hq⟩) (EV.c3 (ok_law_due W) (EV.ix (EV.nm 7) EV.int e1) (EV.ix (EV.nm 7) EV.int e2) (EV.ix (EV.nm 7) EV.int e3) ⟨c, X, A, rfl, isM_t hx, isA_T hy, hq⟩) ⟨rfl, (qu_ans hq).fit, rfl⟩))
  refine ⟨[none, rowC (f 9).1, poolC (f 9).2.1], SB.cons (E1 := [o0, .adr 1, .no, .no, .no, .no, .no, .no, .no, .no, .no, .no]) (M1 := [none, rowC res]) (ST.set 1 (EV.callG (ι := []) (os0 := [o0, .dat (.int 760)]) (M0 := []) (M0' := [none, rowC res]) (o0 := .adr 1) (ok_law_draws W) (EA.cons (EV.nm 0 rfl rfl hn) (EA.cons EV.int EA.nil)) ⟨o0, res, hres, rfl, rfl, rfl, rfl⟩ (by show [_, _] = [o0.ren _, _]; rw [hren]; rfl) mixDraws) c_law.nd) ?_⟩
  refine SB.cons (M1 := [none, rowC (dl 1 res)]) (ST.set 2 (EV.to (EV.cm (ev_tk (ns := res) T (EV.nm 1) EV.int rfl (by decide)) EV.int CS.eqI) (by rw [hw])) c_law.nd) ?_
  refine SB.cons (M1 := [none, rowC (dl 2 res)]) (ST.set 3 (EV.to (EV.add EV.int (EV.mulL EV.int (EV.intB (EV.cm (ev_tk (ns := dl 1 res) T (EV.nm 1) EV.int rfl (by decide)) EV.int CS.eqI) W.b.int) (by decide))) (by rw [hmo])) c_law.nd) ?_
  refine SB.cons (ST.set 4 (EV.cel EA.nil (by decide)) c_law.nd) ?_
  refine SB.cons (ST.forN 5 (n := (3 : Int).toNat) (E_ := fun _ => lE o0 w mo .no .no .no .no .no .no .no) (M_ := fun i => [none, rowC (p i).1, poolC (p i).2]) (EI.rng1 EV.int W.b.range (by decide)) Fg.refl (by rw [p0]; rfl) (fun _ _ => True.intro) c_law.nd (fun i hi => ⟨_, ?_, pP i hi⟩)) ?_
  · exact Fg.cons (Fg.cons (Fg.cons (Fg.cons (Fg.cons (Fg.no Fg.refl)))))
  refine SB.cons (M1 := [none, rowC (p 3).1.dropLast, poolC (p 3).2]) (ST.set 6 (EV.to (ev_tk (ns := (p 3).1) T (EV.nm 1) EV.int rfl (by decide)) (by rw [hst])) c_law.nd) ?_
  refine SB.cons (ST.set 7 EV.non c_law.nd) ?_
  refine SB.cons (ST.forN 5 (n := (9 : Int).toNat) (E_ := fun i => lE o0 w mo .no (.dat (.int st)) (.dat (fD (f i).2.2)) .no .no .no .no) (M_ := fun i => [none, rowC (f i).1, poolC (f i).2.1]) (EI.rng1 EV.int W.b.range (by decide)) (by rw [f0]; exact Fg.refl) (by rw [f0]) (fun _ _ => True.intro) c_law.nd (fun i hi => fP i hi)) ?_
  show SB _ (lb.drop 8) (lE o0 w mo .no (.dat (.int st)) (.dat (fD (f 9).2.2)) .no .no .no .no) [none, rowC (f 9).1, poolC (f 9).2.1] _
  rw [hF]
  exact last
def spLaw (K : PySem.W.Frag) : Sp := fun vs H Q _ => ∃ (a : Addr) (ns : List Int), vs = [.ref a] ∧ SqL K H a (ns.map V.int) ∧ ns.length ≤ 63 ∧ ∀ H', Q (.bl true) H'
open Classical in
theorem scr_of {K : PySem.W.Frag} {H : Hp} {a : Addr} {xs : List V} (h : SqL K H a xs) : ∃ (I : Hp) (u : Option HO), Ex I H ∧ (∀ o, u = some o → I a = some o) ∧ Scr K (.scr a u) xs := by
  have one : ∀ o, H a = some o → (∀ H' : Hp, H' a = some o → SqL K H' a xs) → ∃ (I : Hp) (u : Option HO), Ex I H ∧ (∀ o, u = some o → I a = some o) ∧ Scr K (.scr a u) xs := fun o ho hq => by
    refine ⟨fun b => if b = a then some o else none, some o, fun b p hb => ?_, fun p hp => ?_, a, some o, rfl, fun H' hH => hq H' (hH o rfl)⟩
    · have hb' : (if b = a then some o else none) = some p := hb
      split at hb'
      · rename_i e
        rw [e, ho]
        exact hb'
      · cases hb'
    · show (if a = a then some o else none) = some p
      rw [if_pos rfl]
      exact hp
  rcases h with h | h
  · rcases h with h | ⟨ob, h⟩
    · exact one _ h fun H' h' => .inl (.inl h')
    · exact one _ h fun H' h' => .inl (.inr ⟨ob, h'⟩)
  · exact ⟨fun _ => none, none, (fun b p hb => by cases hb), (fun p hp => by cases hp), a, none, rfl, fun H' _ => .inr h⟩
theorem ok_law {f : Addr} {fd : FuncData} (W : Wd g) (F : Fun g.K "law" "law" s_law f fd) : FnOk g.P g.w g.K g.mg g.base CX0 11 f fd ["script"] (spLaw g.K) := by
  refine F.ok (N := n_law) c_law (fun vs H Q E h => ?_) (fun cdv A outer s H vs Q E hr h => ?_)
  · obtain ⟨a, ns, rfl, _⟩ := h
    rfl
  · obtain ⟨a, ns, rfl, hS, hlen, q⟩ := h
    obtain ⟨I, u, ex, hu, hs⟩ := scr_of hS
    obtain ⟨M', hb⟩ := law_run (g := g) W hs (by intro z; cases z) hlen
    refine ⟨UB (C11 g) lb, ub ⟨rfl, rfl, rfl, rfl, rfl, rfl, rfl, rfl, hr, rfl, fun _ _ => rfl⟩ _, ?_⟩
    refine hb I H [] (L2.start n_law [.ref a]) _ ⟨ex, ⟨rfl, List.nodup_nil, fun k a os h1 _ => by simp at h1, fun k a h1 => by simp at h1⟩, rfl, fun i p ov h1 h2 => ?_⟩ fun v I' H' adr' s' g' v' => ?_
    · match i, h1, h2 with
      | 0, h1, h2 =>
        cases h1
        cases h2
        exact ⟨rfl, hu⟩
      | i + 1, h1, h2 =>
        have e : p = .no := by
          have : (List.replicate 11 O.no)[i]? = some p := h1
          exact List.eq_of_mem_replicate (List.mem_of_getElem? this)
        subst e
        have e2 : ov = none := by
          have : (List.replicate 11 (none : Option V))[i]? = some ov := h2
          exact List.eq_of_mem_replicate (List.mem_of_getElem? this)
        subst e2
        rfl
    · cases (show Rep I' (.bl true) v from v')
      exact q H'
end
end Ab
end
set_option maxHeartbeats 0
/-! ### the head -/
namespace Ab
open PySem PySem.Spec PyProof.Rows L2
def d_is_number : He.DefD := ⟨("is_number", none), "is_number", "is_number", defArgs s_is_number, defBody s_is_number, defScope s_is_number, [], []⟩
def d_is_from_to : He.DefD := ⟨("is_from_to", none), "is_from_to", "is_from_to", defArgs s_is_from_to, defBody s_is_from_to, defScope s_is_from_to, [], []⟩
def d_is_row : He.DefD := ⟨("is_row", none), "is_row", "is_row", defArgs s_is_row, defBody s_is_row, defScope s_is_row, [], []⟩
def d_check_number : He.DefD := ⟨("check_number", none), "check_number", "check_number", defArgs s_check_number, defBody s_check_number, defScope s_check_number, [], []⟩
def d_is_vector : He.DefD := ⟨("is_vector", none), "is_vector", "is_vector", defArgs s_is_vector, defBody s_is_vector, defScope s_is_vector, [], []⟩
def d_is_matrix : He.DefD := ⟨("is_matrix", none), "is_matrix", "is_matrix", defArgs s_is_matrix, defBody s_is_matrix, defScope s_is_matrix, [], []⟩
def d_checked_vector : He.DefD := ⟨("checked_vector", none), "checked_vector", "checked_vector", defArgs s_checked_vector, defBody s_checked_vector, defScope s_checked_vector, [], []⟩
def d_checked_matrix : He.DefD := ⟨("checked_matrix", none), "checked_matrix", "checked_matrix", defArgs s_checked_matrix, defBody s_checked_matrix, defScope s_checked_matrix, [], []⟩
def d_check_sizes : He.DefD := ⟨("check_sizes", none), "check_sizes", "check_sizes", defArgs s_check_sizes, defBody s_check_sizes, defScope s_check_sizes, [], []⟩
def d_checked_pair : He.DefD := ⟨("checked_pair", none), "checked_pair", "checked_pair", defArgs s_checked_pair, defBody s_checked_pair, defScope s_checked_pair, [], []⟩
def d_checked_with : He.DefD := ⟨("checked_with", none), "checked_with", "checked_with", defArgs s_checked_with, defBody s_checked_with, defScope s_checked_with, [], []⟩
def d_greatest_divisor : He.DefD := ⟨("greatest_divisor", none), "greatest_divisor", "greatest_divisor", defArgs s_greatest_divisor, defBody s_greatest_divisor, defScope s_greatest_divisor, [], []⟩
def d_divisor_of : He.DefD := ⟨("divisor_of", none), "divisor_of", "divisor_of", defArgs s_divisor_of, defBody s_divisor_of, defScope s_divisor_of, [], []⟩
def d_times : He.DefD := ⟨("times", none), "times", "times", defArgs s_times, defBody s_times, defScope s_times, [], []⟩
def d_flipped : He.DefD := ⟨("flipped", none), "flipped", "flipped", defArgs s_flipped, defBody s_flipped, defScope s_flipped, [], []⟩
def d_multiplied : He.DefD := ⟨("multiplied", none), "multiplied", "multiplied", defArgs s_multiplied, defBody s_multiplied, defScope s_multiplied, [], []⟩
def d_led_by : He.DefD := ⟨("led_by", none), "led_by", "led_by", defArgs s_led_by, defBody s_led_by, defScope s_led_by, [], []⟩
def d_onto : He.DefD := ⟨("onto", none), "onto", "onto", defArgs s_onto, defBody s_onto, defScope s_onto, [], []⟩
def d_unit : He.DefD := ⟨("unit", none), "unit", "unit", defArgs s_unit, defBody s_unit, defScope s_unit, [], []⟩
def d_many_times : He.DefD := ⟨("many_times", none), "many_times", "many_times", defArgs s_many_times, defBody s_many_times, defScope s_many_times, [], []⟩
def d_added : He.DefD := ⟨("added", none), "added", "added", defArgs s_added, defBody s_added, defScope s_added, [], []⟩
def d_product : He.DefD := ⟨("product", none), "product", "product", defArgs s_product, defBody s_product, defScope s_product, [], []⟩
def d_row_times : He.DefD := ⟨("row_times", none), "row_times", "row_times", defArgs s_row_times, defBody s_row_times, defScope s_row_times, [], []⟩
def d_times_column : He.DefD := ⟨("times_column", none), "times_column", "times_column", defArgs s_times_column, defBody s_times_column, defScope s_times_column, [], []⟩
def d_transposed : He.DefD := ⟨("transposed", none), "transposed", "transposed", defArgs s_transposed, defBody s_transposed, defScope s_transposed, [], []⟩
def d_alike_in_size : He.DefD := ⟨("alike_in_size", none), "alike_in_size", "alike_in_size", defArgs s_alike_in_size, defBody s_alike_in_size, defScope s_alike_in_size, [], []⟩
def d_plus : He.DefD := ⟨("plus", none), "plus", "plus", defArgs s_plus, defBody s_plus, defScope s_plus, [], []⟩
def d_minus : He.DefD := ⟨("minus", none), "minus", "minus", defArgs s_minus, defBody s_minus, defScope s_minus, [], []⟩
def d_scaled : He.DefD := ⟨("scaled", none), "scaled", "scaled", defArgs s_scaled, defBody s_scaled, defScope s_scaled, [], []⟩
def d_identity : He.DefD := ⟨("identity", none), "identity", "identity", defArgs s_identity, defBody s_identity, defScope s_identity, [], []⟩
def d_stacked : He.DefD := ⟨("stacked", none), "stacked", "stacked", defArgs s_stacked, defBody s_stacked, defScope s_stacked, [], []⟩
def d_beside : He.DefD := ⟨("beside", none), "beside", "beside", defArgs s_beside, defBody s_beside, defScope s_beside, [], []⟩
def d_divisor : He.DefD := ⟨("divisor", none), "divisor", "divisor", defArgs s_divisor, defBody s_divisor, defScope s_divisor, [], []⟩
def d_law_draws : He.DefD := ⟨("_law_draws", none), "_law_draws", "_law_draws", defArgs s_law_draws, defBody s_law_draws, defScope s_law_draws, [], []⟩
def d_law_take : He.DefD := ⟨("_law_take", none), "_law_take", "_law_take", defArgs s_law_take, defBody s_law_take, defScope s_law_take, [], []⟩
def d_law_like : He.DefD := ⟨("_law_like", none), "_law_like", "_law_like", defArgs s_law_like, defBody s_law_like, defScope s_law_like, [], []⟩
def d_law_most : He.DefD := ⟨("_law_most", none), "_law_most", "_law_most", defArgs s_law_most, defBody s_law_most, defScope s_law_most, [], []⟩
def d_law_near : He.DefD := ⟨("_law_near", none), "_law_near", "_law_near", defArgs s_law_near, defBody s_law_near, defScope s_law_near, [], []⟩
def d_law_gcd : He.DefD := ⟨("_law_gcd", none), "_law_gcd", "_law_gcd", defArgs s_law_gcd, defBody s_law_gcd, defScope s_law_gcd, [], []⟩
def d_law_table : He.DefD := ⟨("_law_table", none), "_law_table", "_law_table", defArgs s_law_table, defBody s_law_table, defScope s_law_table, [], []⟩
def d_law_due : He.DefD := ⟨("_law_due", none), "_law_due", "_law_due", defArgs s_law_due, defBody s_law_due, defScope s_law_due, [], []⟩
def d_law_numbers : He.DefD := ⟨("_law_numbers", none), "_law_numbers", "_law_numbers", defArgs s_law_numbers, defBody s_law_numbers, defScope s_law_numbers, [], []⟩
def d_law_drawn : He.DefD := ⟨("_law_drawn", none), "_law_drawn", "_law_drawn", defArgs s_law_drawn, defBody s_law_drawn, defScope s_law_drawn, [], []⟩
def d_law_fitting : He.DefD := ⟨("_law_fitting", none), "_law_fitting", "_law_fitting", defArgs s_law_fitting, defBody s_law_fitting, defScope s_law_fitting, [], []⟩
def d_law_loose : He.DefD := ⟨("_law_loose", none), "_law_loose", "_law_loose", defArgs s_law_loose, defBody s_law_loose, defScope s_law_loose, [], []⟩
def d_law_firm : He.DefD := ⟨("_law_firm", none), "_law_firm", "_law_firm", defArgs s_law_firm, defBody s_law_firm, defScope s_law_firm, [], []⟩
def d_law_asked : He.DefD := ⟨("_law_asked", none), "_law_asked", "_law_asked", defArgs s_law_asked, defBody s_law_asked, defScope s_law_asked, [], []⟩
def d_law : He.DefD := ⟨("law", none), "law", "law", defArgs s_law, defBody s_law, defScope s_law, [], []⟩
def hfn0 : List He.DefD := [d_is_number, d_is_from_to, d_is_row, d_check_number, d_is_vector, d_is_matrix, d_checked_vector, d_checked_matrix, d_check_sizes, d_checked_pair, d_checked_with, d_greatest_divisor, d_divisor_of, d_times, d_flipped, d_multiplied, d_led_by, d_onto, d_unit, d_many_times]
def hfn1 : List He.DefD := [d_added, d_product, d_row_times, d_times_column, d_transposed, d_alike_in_size, d_plus, d_minus, d_scaled, d_identity, d_stacked, d_beside, d_divisor, d_law_draws, d_law_take, d_law_like, d_law_most, d_law_near, d_law_gcd, d_law_table]
def hfn2 : List He.DefD := [d_law_due, d_law_numbers, d_law_drawn, d_law_fitting, d_law_loose, d_law_firm, d_law_asked, d_law]
def hfn : List He.DefD := hfn0 ++ hfn1 ++ hfn2
def hfa0 : List He.Fa := [.glo "is_number", .glo "is_from_to", .glo "is_row", .glo "check_number", .glo "is_vector", .glo "is_matrix", .glo "checked_vector", .glo "checked_matrix", .glo "check_sizes", .glo "checked_pair", .glo "checked_with", .glo "greatest_divisor", .glo "divisor_of", .glo "times", .glo "flipped", .glo "multiplied", .glo "led_by", .glo "onto", .glo "unit", .glo "many_times"]
def hfa1 : List He.Fa := [.glo "added", .glo "product", .glo "row_times", .glo "times_column", .glo "transposed", .glo "alike_in_size", .glo "plus", .glo "minus", .glo "scaled", .glo "identity", .glo "stacked", .glo "beside", .glo "divisor", .glo "_law_draws", .glo "_law_take", .glo "_law_like", .glo "_law_most", .glo "_law_near", .glo "_law_gcd", .glo "_law_table"]
def hfa2 : List He.Fa := [.glo "_law_due", .glo "_law_numbers", .glo "_law_drawn", .glo "_law_fitting", .glo "_law_loose", .glo "_law_firm", .glo "_law_asked", .glo "law", .free "len", .free "sum", .free "all", .free "any", .free "abs", .free "min", .free "max", .free "int", .free "bool", .free "str", .free "tuple", .free "list"]
def hfa3 : List He.Fa := [.free "range", .free "zip", .free "enumerate", .free "isinstance", .free "reversed", .free "sorted", .int "MOST_SIZE" 8, .int "MOST_NUMBER" 1000000]
def hfa : List He.Fa := hfa0 ++ hfa1 ++ hfa2 ++ hfa3
def hloose0 : List Str := ["__name__", "CoreError", "InvalidMatrix", "InvalidVector", "InvalidNumber", "Unfit", "MOST_SIZE", "MOST_NUMBER", "is_number", "is_from_to", "is_row", "check_number", "is_vector", "is_matrix", "checked_vector", "checked_matrix", "check_sizes", "checked_pair", "checked_with", "greatest_divisor"]
def hloose1 : List Str := ["divisor_of", "times", "flipped", "multiplied", "led_by", "onto", "unit", "many_times", "added", "product", "row_times", "times_column", "transposed", "alike_in_size", "plus", "minus", "scaled", "identity", "stacked", "beside"]
def hloose2 : List Str := ["divisor", "_law_draws", "_law_take", "_law_like", "_law_most", "_law_near", "_law_gcd", "_law_table", "_law_due", "_law_numbers", "_law_drawn", "_law_fitting", "_law_loose", "_law_firm", "_law_asked"]
def hloose : List Str := hloose0 ++ hloose1 ++ hloose2
abbrev HR : PySem.W.OpenRow := PySem.W.OpenLaw.row PySem.Challenge.rw_multipliedout_k00_whole_reckoning
abbrev hhk : PySem.W.Hook := He.hookD 5 hfa hfn
def hob (s : PySem.W.SharedT) : He.AlD := He.obsDG 5 hfa hfn (HandSHeadRun.getT s)
theorem hob_eq (s : PySem.W.SharedT) : hob s = hhk.obs s.abs := He.obsDG_eq (HandSHeadRun.getT_eq s)
theorem hrun (w : World) : HandSHeadRun.RunEq HR (PySem.W.view HR.prog [59]) hhk hob 4000 hloose w := by
  intro os
  kernel_rfl
theorem fun_of {K : PySem.W.Frag} {x : Str} {st : Stmt} {f : Addr} {fd : FuncData} (F : FunD K x x (defArgs st) (defBody st) (defScope st) [] [] f fd) : Fun K x x st f fd := by
  obtain ⟨oc, od, dV, kV, doc, pm, an, cdv, ct, osl, h1, h2, h3, h4, h5⟩ := F.ex
  rcases h4 with ⟨_, e⟩ | ⟨e, _⟩
  · subst e
    exact ⟨⟨oc, od, kV, doc, pm, an, cdv, ct, osl, h1, h2, h3⟩, F.kp⟩
  · exact absurd rfl e
theorem hwd {P : Program} {w : World} {K : PySem.W.Frag} {h base : Heap} {mg : Str → Option Value} (X : K.In h) (G : h.Ns mainGlobals mg) (c : He.SaysD hfa hfn K) : Wd ⟨P, w, K, mg, base⟩ where
  b := ⟨He.free_ok X G (c.fact 48 (f := .free "len") rfl), He.free_ok X G (c.fact 49 (f := .free "sum") rfl), He.free_ok X G (c.fact 50 (f := .free "all") rfl), He.free_ok X G (c.fact 51 (f := .free "any") rfl), He.free_ok X G (c.fact 52 (f := .free "abs") rfl), He.free_ok X G (c.fact 53 (f := .free "min") rfl), He.free_ok X G (c.fact 54 (f := .free "max") rfl), He.free_ok X G (c.fact 55 (f := .free "int") rfl), He.free_ok X G (c.fact 56 (f := .free "bool") rfl), He.free_ok X G (c.fact 57 (f := .free "str") rfl), He.free_ok X G (c.fact 58 (f := .free "tuple") rfl), He.free_ok X G (c.fact 59 (f := .free "list") rfl), He.free_ok X G (c.fact 60 (f := .free "range") rfl), He.free_ok X G (c.fact 61 (f := .free "zip") rfl), He.free_ok X G (c.fact 62 (f := .free "enumerate") rfl), He.free_ok X G (c.fact 63 (f := .free "isinstance") rfl), He.free_ok X G (c.fact 64 (f := .free "reversed") rfl), He.free_ok X G (c.fact 65 (f := .free "sorted") rfl)⟩
  t_is_number := ⟨let ⟨fd, F⟩ := c.def_ 0 (d := d_is_number) rfl; ⟨_, fd, fun_of F, He.glo_ok X G (c.fact 0 (f := .glo "is_number") rfl)⟩⟩
  t_is_from_to := ⟨let ⟨fd, F⟩ := c.def_ 1 (d := d_is_from_to) rfl; ⟨_, fd, fun_of F, He.glo_ok X G (c.fact 1 (f := .glo "is_from_to") rfl)⟩⟩
  t_is_row := ⟨let ⟨fd, F⟩ := c.def_ 2 (d := d_is_row) rfl; ⟨_, fd, fun_of F, He.glo_ok X G (c.fact 2 (f := .glo "is_row") rfl)⟩⟩
  t_check_number := ⟨let ⟨fd, F⟩ := c.def_ 3 (d := d_check_number) rfl; ⟨_, fd, fun_of F, He.glo_ok X G (c.fact 3 (f := .glo "check_number") rfl)⟩⟩
  t_is_vector := ⟨let ⟨fd, F⟩ := c.def_ 4 (d := d_is_vector) rfl; ⟨_, fd, fun_of F, He.glo_ok X G (c.fact 4 (f := .glo "is_vector") rfl)⟩⟩
  t_is_matrix := ⟨let ⟨fd, F⟩ := c.def_ 5 (d := d_is_matrix) rfl; ⟨_, fd, fun_of F, He.glo_ok X G (c.fact 5 (f := .glo "is_matrix") rfl)⟩⟩
  t_checked_vector := ⟨let ⟨fd, F⟩ := c.def_ 6 (d := d_checked_vector) rfl; ⟨_, fd, fun_of F, He.glo_ok X G (c.fact 6 (f := .glo "checked_vector") rfl)⟩⟩
  t_checked_matrix := ⟨let ⟨fd, F⟩ := c.def_ 7 (d := d_checked_matrix) rfl; ⟨_, fd, fun_of F, He.glo_ok X G (c.fact 7 (f := .glo "checked_matrix") rfl)⟩⟩
  t_check_sizes := ⟨let ⟨fd, F⟩ := c.def_ 8 (d := d_check_sizes) rfl; ⟨_, fd, fun_of F, He.glo_ok X G (c.fact 8 (f := .glo "check_sizes") rfl)⟩⟩
  t_checked_pair := ⟨let ⟨fd, F⟩ := c.def_ 9 (d := d_checked_pair) rfl; ⟨_, fd, fun_of F, He.glo_ok X G (c.fact 9 (f := .glo "checked_pair") rfl)⟩⟩
  t_checked_with := ⟨let ⟨fd, F⟩ := c.def_ 10 (d := d_checked_with) rfl; ⟨_, fd, fun_of F, He.glo_ok X G (c.fact 10 (f := .glo "checked_with") rfl)⟩⟩
  t_greatest_divisor := ⟨let ⟨fd, F⟩ := c.def_ 11 (d := d_greatest_divisor) rfl; ⟨_, fd, fun_of F, He.glo_ok X G (c.fact 11 (f := .glo "greatest_divisor") rfl)⟩⟩
  t_divisor_of := ⟨let ⟨fd, F⟩ := c.def_ 12 (d := d_divisor_of) rfl; ⟨_, fd, fun_of F, He.glo_ok X G (c.fact 12 (f := .glo "divisor_of") rfl)⟩⟩
  t_times := ⟨let ⟨fd, F⟩ := c.def_ 13 (d := d_times) rfl; ⟨_, fd, fun_of F, He.glo_ok X G (c.fact 13 (f := .glo "times") rfl)⟩⟩
  t_flipped := ⟨let ⟨fd, F⟩ := c.def_ 14 (d := d_flipped) rfl; ⟨_, fd, fun_of F, He.glo_ok X G (c.fact 14 (f := .glo "flipped") rfl)⟩⟩
  t_multiplied := ⟨let ⟨fd, F⟩ := c.def_ 15 (d := d_multiplied) rfl; ⟨_, fd, fun_of F, He.glo_ok X G (c.fact 15 (f := .glo "multiplied") rfl)⟩⟩
  t_led_by := ⟨let ⟨fd, F⟩ := c.def_ 16 (d := d_led_by) rfl; ⟨_, fd, fun_of F, He.glo_ok X G (c.fact 16 (f := .glo "led_by") rfl)⟩⟩
  t_onto := ⟨let ⟨fd, F⟩ := c.def_ 17 (d := d_onto) rfl; ⟨_, fd, fun_of F, He.glo_ok X G (c.fact 17 (f := .glo "onto") rfl)⟩⟩
  t_unit := ⟨let ⟨fd, F⟩ := c.def_ 18 (d := d_unit) rfl; ⟨_, fd, fun_of F, He.glo_ok X G (c.fact 18 (f := .glo "unit") rfl)⟩⟩
  t_many_times := ⟨let ⟨fd, F⟩ := c.def_ 19 (d := d_many_times) rfl; ⟨_, fd, fun_of F, He.glo_ok X G (c.fact 19 (f := .glo "many_times") rfl)⟩⟩
  t_added := ⟨let ⟨fd, F⟩ := c.def_ 20 (d := d_added) rfl; ⟨_, fd, fun_of F, He.glo_ok X G (c.fact 20 (f := .glo "added") rfl)⟩⟩
  t_product := ⟨let ⟨fd, F⟩ := c.def_ 21 (d := d_product) rfl; ⟨_, fd, fun_of F, He.glo_ok X G (c.fact 21 (f := .glo "product") rfl)⟩⟩
  t_row_times := ⟨let ⟨fd, F⟩ := c.def_ 22 (d := d_row_times) rfl; ⟨_, fd, fun_of F, He.glo_ok X G (c.fact 22 (f := .glo "row_times") rfl)⟩⟩
  t_times_column := ⟨let ⟨fd, F⟩ := c.def_ 23 (d := d_times_column) rfl; ⟨_, fd, fun_of F, He.glo_ok X G (c.fact 23 (f := .glo "times_column") rfl)⟩⟩
  t_transposed := ⟨let ⟨fd, F⟩ := c.def_ 24 (d := d_transposed) rfl; ⟨_, fd, fun_of F, He.glo_ok X G (c.fact 24 (f := .glo "transposed") rfl)⟩⟩
  t_alike_in_size := ⟨let ⟨fd, F⟩ := c.def_ 25 (d := d_alike_in_size) rfl; ⟨_, fd, fun_of F, He.glo_ok X G (c.fact 25 (f := .glo "alike_in_size") rfl)⟩⟩
  t_plus := ⟨let ⟨fd, F⟩ := c.def_ 26 (d := d_plus) rfl; ⟨_, fd, fun_of F, He.glo_ok X G (c.fact 26 (f := .glo "plus") rfl)⟩⟩
  t_minus := ⟨let ⟨fd, F⟩ := c.def_ 27 (d := d_minus) rfl; ⟨_, fd, fun_of F, He.glo_ok X G (c.fact 27 (f := .glo "minus") rfl)⟩⟩
  t_scaled := ⟨let ⟨fd, F⟩ := c.def_ 28 (d := d_scaled) rfl; ⟨_, fd, fun_of F, He.glo_ok X G (c.fact 28 (f := .glo "scaled") rfl)⟩⟩
  t_identity := ⟨let ⟨fd, F⟩ := c.def_ 29 (d := d_identity) rfl; ⟨_, fd, fun_of F, He.glo_ok X G (c.fact 29 (f := .glo "identity") rfl)⟩⟩
  t_stacked := ⟨let ⟨fd, F⟩ := c.def_ 30 (d := d_stacked) rfl; ⟨_, fd, fun_of F, He.glo_ok X G (c.fact 30 (f := .glo "stacked") rfl)⟩⟩
  t_beside := ⟨let ⟨fd, F⟩ := c.def_ 31 (d := d_beside) rfl; ⟨_, fd, fun_of F, He.glo_ok X G (c.fact 31 (f := .glo "beside") rfl)⟩⟩
  t_divisor := ⟨let ⟨fd, F⟩ := c.def_ 32 (d := d_divisor) rfl; ⟨_, fd, fun_of F, He.glo_ok X G (c.fact 32 (f := .glo "divisor") rfl)⟩⟩
  t_law_draws := ⟨let ⟨fd, F⟩ := c.def_ 33 (d := d_law_draws) rfl; ⟨_, fd, fun_of F, He.glo_ok X G (c.fact 33 (f := .glo "_law_draws") rfl)⟩⟩
  t_law_take := ⟨let ⟨fd, F⟩ := c.def_ 34 (d := d_law_take) rfl; ⟨_, fd, fun_of F, He.glo_ok X G (c.fact 34 (f := .glo "_law_take") rfl)⟩⟩
  t_law_like := ⟨let ⟨fd, F⟩ := c.def_ 35 (d := d_law_like) rfl; ⟨_, fd, fun_of F, He.glo_ok X G (c.fact 35 (f := .glo "_law_like") rfl)⟩⟩
  t_law_most := ⟨let ⟨fd, F⟩ := c.def_ 36 (d := d_law_most) rfl; ⟨_, fd, fun_of F, He.glo_ok X G (c.fact 36 (f := .glo "_law_most") rfl)⟩⟩
  t_law_near := ⟨let ⟨fd, F⟩ := c.def_ 37 (d := d_law_near) rfl; ⟨_, fd, fun_of F, He.glo_ok X G (c.fact 37 (f := .glo "_law_near") rfl)⟩⟩
  t_law_gcd := ⟨let ⟨fd, F⟩ := c.def_ 38 (d := d_law_gcd) rfl; ⟨_, fd, fun_of F, He.glo_ok X G (c.fact 38 (f := .glo "_law_gcd") rfl)⟩⟩
  t_law_table := ⟨let ⟨fd, F⟩ := c.def_ 39 (d := d_law_table) rfl; ⟨_, fd, fun_of F, He.glo_ok X G (c.fact 39 (f := .glo "_law_table") rfl)⟩⟩
  t_law_due := ⟨let ⟨fd, F⟩ := c.def_ 40 (d := d_law_due) rfl; ⟨_, fd, fun_of F, He.glo_ok X G (c.fact 40 (f := .glo "_law_due") rfl)⟩⟩
  t_law_numbers := ⟨let ⟨fd, F⟩ := c.def_ 41 (d := d_law_numbers) rfl; ⟨_, fd, fun_of F, He.glo_ok X G (c.fact 41 (f := .glo "_law_numbers") rfl)⟩⟩
  t_law_drawn := ⟨let ⟨fd, F⟩ := c.def_ 42 (d := d_law_drawn) rfl; ⟨_, fd, fun_of F, He.glo_ok X G (c.fact 42 (f := .glo "_law_drawn") rfl)⟩⟩
  t_law_fitting := ⟨let ⟨fd, F⟩ := c.def_ 43 (d := d_law_fitting) rfl; ⟨_, fd, fun_of F, He.glo_ok X G (c.fact 43 (f := .glo "_law_fitting") rfl)⟩⟩
  t_law_loose := ⟨let ⟨fd, F⟩ := c.def_ 44 (d := d_law_loose) rfl; ⟨_, fd, fun_of F, He.glo_ok X G (c.fact 44 (f := .glo "_law_loose") rfl)⟩⟩
  t_law_firm := ⟨let ⟨fd, F⟩ := c.def_ 45 (d := d_law_firm) rfl; ⟨_, fd, fun_of F, He.glo_ok X G (c.fact 45 (f := .glo "_law_firm") rfl)⟩⟩
  t_law_asked := ⟨let ⟨fd, F⟩ := c.def_ 46 (d := d_law_asked) rfl; ⟨_, fd, fun_of F, He.glo_ok X G (c.fact 46 (f := .glo "_law_asked") rfl)⟩⟩
  t_law := ⟨let ⟨fd, F⟩ := c.def_ 47 (d := d_law) rfl; ⟨_, fd, fun_of F, He.glo_ok X G (c.fact 47 (f := .glo "law") rfl)⟩⟩
  g_MOST_SIZE := He.int_ok X G (c.fact 66 (f := .int "MOST_SIZE" 8) rfl)
  g_MOST_NUMBER := He.int_ok X G (c.fact 67 (f := .int "MOST_NUMBER" 1000000) rfl)
theorem hfacts {P : Program} {w : World} {K : PySem.W.Frag} {h : Heap} {mg : Str → Option Value} {f : Addr} (X : K.In h) (G : h.Ns mainGlobals mg) (hfa' : mg ("law" : Str) = some (.ref f)) (c : He.SaysD hfa hfn K) :
    ∃ fd : FuncData, (∀ (s : Shared) (v : Value), BindsTo s fd ⟨[v], []⟩ [("script", v)]) ∧ ∀ base : Heap, K.In base → base.Ns mainGlobals mg → FnOk P w K mg base CX0 11 f fd ["script"] (spLaw K) := by
  obtain ⟨fd, F⟩ := c.def_ 47 (d := d_law) rfl
  have e := hfa'.symm.trans (He.glo_ok X G (c.fact 47 (f := .glo "law") rfl))
  cases e
  have b := FunD.bindsA (ps := ["script"]) F fun _ _ _ _ _ _ us hl => match us, hl with | [_], _ => rfl
  exact ⟨fd, fun s v => b s [v] rfl, fun base _ _ => ok_law (g := ⟨P, w, K, mg, base⟩) (hwd X G c) (fun_of F)⟩
end Ab
open PySem PySem.W PySem.Calls PyProof.Rows
theorem PySem.Challenge.cw_multipliedout_k00_whole_reckoning_holds : PySem.Challenge.rw_multipliedout_k00_whole_reckoning.Holds := by
  w_on; o_law
  refine HandSHeadRun.head_any (r := OpenLaw.row PySem.Challenge.rw_multipliedout_k00_whole_reckoning) (q := view (OpenLaw.row PySem.Challenge.rw_multipliedout_k00_whole_reckoning).prog [59]) (H := Ab.hhk) (ob := Ab.hob) (M := 4000) (loose := Ab.hloose) (d := HandSHeadRun.topDef (OpenLaw.row PySem.Challenge.rw_multipliedout_k00_whole_reckoning).prog 59) (kwd := []) Ab.hob_eq
    (by kernel_rfl) (fun s => by kernel_rfl) Ab.hrun (by kernel_rfl) (by kernel_rfl) (by kernel_rfl) (by rfl) (by first | assumption | decide +kernel) (by decide +kernel) ⟨rfl, rfl, rfl, rfl, rfl, by decide +kernel⟩ ?hw ?hc
  case hw => w_witness2
  case hc =>
    refine L2.walk_ofE (l := PySem.Challenge.rw_multipliedout_k00_whole_reckoning) (n := 63) (k := 11) (x := "script") (CX := L2.CX0) rfl (by decide) (by kernel_rfl) ⟨rfl, by decide, by decide⟩ ?F (fun _ _ _ _ z => z)
    intro w mg fa h Y G hmg0
    obtain ⟨K, KX, c⟩ := Y
    have hmg : mg ("law" : PySem.Str) = some (.ref fa) := by
      have e : (HandSHeadRun.topDef (OpenLaw.row PySem.Challenge.rw_multipliedout_k00_whole_reckoning).prog 59).name = ("law" : PySem.Str) := by kernel_rfl
      rw [← e]
      exact hmg0
    obtain ⟨fd, hb, hF⟩ := Ab.hfacts (P := (PySem.Challenge.rw_multipliedout_k00_whole_reckoning).prog) (w := w) KX G hmg c
    exact ⟨K, fd, Ab.spLaw K, KX, hb, fun H a ns hl _ hS => ⟨a, ns, rfl, hS, hl, fun _ => rfl⟩, hF⟩
