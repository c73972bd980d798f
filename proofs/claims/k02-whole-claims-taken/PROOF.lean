import PyProof.Rows.All
import Wide.All
import OpenK.AllK
import Wide.FinOn
import PyProof.EqAt
import PyProof.EqKinds
import PyProof.TupleCall
import KE.KStateDown
import HandS.Base
import HandS.Call
import HandS.List
import HandS.Comp
import HandS.Words
import HandS.WordsList
import HandS.TupAny
import HandS.TupMul
import HandS.Wide
import HandS.IsInst
import HandS.Style
import HandS.Dict
import HandS.Iter
import HandS.Zip
import HandS.More
import HandS.TupLe
import HandS.Conv
import HandS.Rev
import PyProof.ListRange
import HandS.Deep
import KE.GoesEnum
import PyProof.StrOps2
import HandS.Ends
import HandS.WordsExc
import HandS.Defaults
import HandS.Head0
import HandS.Head1
import HandS.Head2
import HandS.HeadEnd
import HandS.HeadHook1
import HandS.HeadHook2
import HandS.HeadHook3
import HandS.HeadHook4
import PySem.Challenge.RW_multipliedout_k02_whole_claims_taken
set_option Elab.async false
set_option linter.all false
set_option maxRecDepth 100000
set_option maxHeartbeats 4000000
section
set_option autoImplicit false
/-! Ab: a machine of plain data over the hand layer. Data never change; lists that do are numbered cells. -/
namespace Ab
open PySem PySem.Spec PyProof.Rows L2

inductive D where
  | non | bl (b : Bool) | int (i : Int) | str (s : Str) | tup (ds : List D) | lst (ds : List D) | dct (ks : List Key) (ds : List D)

mutual
inductive Rep (I : Hp) : D → V → Prop
  | non : Rep I .non .non
  | bl (b : Bool) : Rep I (.bl b) (.bl b)
  | int (i : Int) : Rep I (.int i) (.int i)
  | str (s : Str) : Rep I (.str s) (.str s)
  | tup {a : Addr} {xs : List V} {ds : List D} (h : I a = some (.tup xs)) (r : Reps I ds xs) : Rep I (.tup ds) (.ref a)
  | lst {a : Addr} {xs : List V} {ds : List D} (h : I a = some (.lst xs)) (r : Reps I ds xs) : Rep I (.lst ds) (.ref a)
  | dct {a : Addr} {kvs : List (Key × V)} {ds : List D} (h : I a = some (.dK kvs)) (r : Reps I ds (kvs.map (·.2))) : Rep I (.dct (kvs.map (·.1)) ds) (.ref a)
inductive Reps (I : Hp) : List D → List V → Prop
  | nil : Reps I [] []
  | cons {d : D} {ds : List D} {v : V} {vs : List V} (h : Rep I d v) (r : Reps I ds vs) : Reps I (d :: ds) (v :: vs)
end

def Ex (H H' : Hp) : Prop := ∀ a o, H a = some o → H' a = some o
theorem Ex.refl (H : Hp) : Ex H H := fun _ _ h => h
theorem Ex.trans {H H1 H2 : Hp} (a : Ex H H1) (b : Ex H1 H2) : Ex H H2 := fun x o h => b x o (a x o h)
theorem Ex.non {I H : Hp} {p : Addr} (e : Ex I H) (h : H p = none) : I p = none := by
  cases q : I p with
  | none => rfl
  | some o =>
    rw [e p o q] at h
    cases h
theorem Ex.new {H : Hp} {p : Addr} {o : HO} (h : H p = none) : Ex H (upd H p o) := fun a u e => by
  rw [upd_ne (ne_of_none e h)]
  exact e
theorem Ex.mut {I H : Hp} {p : Addr} {o : HO} (e : Ex I H) (h : I p = none) : Ex I (upd H p o) := fun a u ha => by
  rw [upd_ne (ne_of_none ha h)]
  exact e a u ha
theorem Ex.upd {I H : Hp} {p : Addr} {o : HO} (e : Ex I H) : Ex (upd I p o) (upd H p o) := fun a u ha => by
  by_cases h : a = p
  · subst h
    rw [upd_same] at ha ⊢
    exact ha
  · rw [upd_ne h] at ha ⊢
    exact e a u ha

mutual
theorem Rep.mono {I I' : Hp} (e : Ex I I') : ∀ {d : D} {v : V}, Rep I d v → Rep I' d v
  | _, _, .non => .non
  | _, _, .bl b => .bl b
  | _, _, .int i => .int i
  | _, _, .str s => .str s
  | _, _, .tup h r => .tup (e _ _ h) (Reps.mono e r)
  | _, _, .lst h r => .lst (e _ _ h) (Reps.mono e r)
  | _, _, .dct h r => .dct (e _ _ h) (Reps.mono e r)
theorem Reps.mono {I I' : Hp} (e : Ex I I') : ∀ {ds : List D} {vs : List V}, Reps I ds vs → Reps I' ds vs
  | _, _, .nil => .nil
  | _, _, .cons h r => .cons (Rep.mono e h) (Reps.mono e r)
end
theorem Reps.length {I : Hp} : ∀ {ds : List D} {vs : List V}, Reps I ds vs → ds.length = vs.length
  | _, _, .nil => rfl
  | _, _, .cons _ r => by rw [List.length_cons, List.length_cons, Reps.length r]
theorem Reps.get {I : Hp} : ∀ {ds : List D} {vs : List V} {i : Nat} {d : D}, Reps I ds vs → ds[i]? = some d → ∃ v, vs[i]? = some v ∧ Rep I d v
  | _, _, _, _, .nil, e => by simp at e
  | _, _, 0, _, .cons h _, e => by
    simp at e
    subst e
    exact ⟨_, rfl, h⟩
  | _, _, i + 1, _, .cons _ r, e => by
    obtain ⟨v, h1, h2⟩ := Reps.get (i := i) r (by simpa using e)
    exact ⟨v, by simpa using h1, h2⟩
theorem Reps.append {I : Hp} : ∀ {ds es : List D} {vs ws : List V}, Reps I ds vs → Reps I es ws → Reps I (ds ++ es) (vs ++ ws)
  | _, _, _, _, .nil, s => s
  | _, _, _, _, .cons h r, s => .cons h (Reps.append r s)
theorem Reps.take {I : Hp} : ∀ {ds : List D} {vs : List V} (n : Nat), Reps I ds vs → Reps I (ds.take n) (vs.take n)
  | _, _, 0, _ => .nil
  | _, _, _ + 1, .nil => .nil
  | _, _, n + 1, .cons h r => .cons h (Reps.take n r)
theorem Reps.drop {I : Hp} : ∀ {ds : List D} {vs : List V} (n : Nat), Reps I ds vs → Reps I (ds.drop n) (vs.drop n)
  | _, _, 0, r => r
  | _, _, _ + 1, .nil => .nil
  | _, _, n + 1, .cons _ r => Reps.drop n r
theorem Reps.reverse {I : Hp} : ∀ {ds : List D} {vs : List V}, Reps I ds vs → Reps I ds.reverse vs.reverse
  | _, _, .nil => .nil
  | _, _, .cons h r => by
    rw [List.reverse_cons, List.reverse_cons]
    exact Reps.append (Reps.reverse r) (.cons h .nil)
theorem Reps.rep {I : Hp} {ds : List D} {vs : List V} (h : Reps I ds vs) : ∀ n : Nat, Reps I (List.replicate n ds).flatten (List.replicate n vs).flatten
  | 0 => .nil
  | n + 1 => by
    rw [List.replicate_succ, List.replicate_succ, List.flatten_cons, List.flatten_cons]
    exact Reps.append h (Reps.rep h n)

/-! ### slots, cells -/
inductive O where
  | no | dat (d : D) | adr (k : Nat) | scr (a : Addr) (u : Option HO)
abbrev Mem := List (Option (List O))

def Vo (I : Hp) (adr : List Addr) : O → V → Prop
  | .no, _ => True
  | .dat d, v => Rep I d v
  | .adr k, v => ∃ a, adr[k]? = some a ∧ v = .ref a
  | .scr a u, v => v = .ref a ∧ ∀ o, u = some o → I a = some o
def Vso (I : Hp) (adr : List Addr) (o : O) (ov : Option V) : Prop := match ov with
  | some v => Vo I adr o v
  | none => o = .no
abbrev Vs (I : Hp) (adr : List Addr) : List O → List V → Prop := Paired (Vo I adr)

structure Sto (I H : Hp) (adr : List Addr) (M : Mem) : Prop where
  len : adr.length = M.length
  nd : adr.Nodup
  cell : ∀ (k : Nat) (a : Addr) (os : List O), adr[k]? = some a → M[k]? = some (some os) → I a = none ∧ ∃ xs, H a = some (.lst xs) ∧ Vs I adr os xs
  dom : ∀ (k : Nat) (a : Addr), adr[k]? = some a → ∃ u, H a = some u
structure Stt (I H : Hp) (adr : List Addr) (σ : L2.St) (E : List O) (M : Mem) : Prop where
  ex : Ex I H
  sto : Sto I H adr M
  len : E.length = σ.length
  slot : ∀ (i : Nat) (o : O) (ov : Option V), E[i]? = some o → σ[i]? = some ov → Vso I adr o ov
structure Grow (I H : Hp) (adr : List Addr) (I' H' : Hp) (adr' : List Addr) : Prop where
  ex : Ex I I'
  new : ∃ nw, adr' = adr ++ nw ∧ ∀ p ∈ nw, H p = none
  keep : ∀ p u, H p = some u → p ∉ adr → H' p = some u
  dom : ∀ p u, H p = some u → ∃ u', H' p = some u'
  out : ∀ p u, H p = some u → I p = none → p ∉ adr → I' p = none

section
variable {I H I1 H1 I2 H2 I' H' : Hp} {adr adr1 adr2 adr' : List Addr} {σ : L2.St} {E : List O} {M M' : Mem}
theorem Grow.refl : Grow I H adr I H adr := ⟨Ex.refl _, ⟨[], by simp, by simp⟩, fun _ _ h _ => h, fun _ u h => ⟨u, h⟩, fun _ _ _ h _ => h⟩
theorem Grow.trans (a : Grow I H adr I1 H1 adr1) (b : Grow I1 H1 adr1 I2 H2 adr2) : Grow I H adr I2 H2 adr2 := by
  obtain ⟨nw, rfl, hn⟩ := a.new
  obtain ⟨nv, rfl, hv⟩ := b.new
  have nin : ∀ p u, H p = some u → p ∉ adr → p ∉ adr ++ nw := fun p u h q z => by
    rcases List.mem_append.mp z with z | z
    · exact q z
    · rw [hn p z] at h
      cases h
  refine ⟨a.ex.trans b.ex, ⟨nw ++ nv, by rw [List.append_assoc], fun p hp => ?_⟩, fun p u h q => b.keep p u (a.keep p u h q) (nin p u h q), fun p u h => ?_, fun p u h q r => b.out p u (a.keep p u h r) (a.out p u h q r) (nin p u h r)⟩
  · rcases List.mem_append.mp hp with z | z
    · exact hn p z
    · cases q : H p with
      | none => rfl
      | some u =>
        obtain ⟨u', e⟩ := a.dom p u q
        rw [hv p z] at e
        cases e
  · obtain ⟨u', e⟩ := a.dom p u h
    exact b.dom p u' e
theorem Grow.get (g : Grow I H adr I' H' adr') {k : Nat} {a : Addr} (h : adr[k]? = some a) : adr'[k]? = some a := by
  obtain ⟨nw, rfl, _⟩ := g.new
  rw [List.getElem?_append_left (List.getElem?_eq_some_iff.mp h).1]
  exact h
theorem Vo.mono (g : Grow I H adr I' H' adr') : ∀ {o : O} {v : V}, Vo I adr o v → Vo I' adr' o v
  | .no, _, _ => True.intro
  | .dat _, _, h => Rep.mono g.ex h
  | .adr _, _, h => by
    obtain ⟨a, h1, h2⟩ := h
    exact ⟨a, g.get h1, h2⟩
  | .scr _ _, _, h => ⟨h.1, fun o q => g.ex _ _ (h.2 o q)⟩
theorem Vo.ext (e : Ex I I') : ∀ {o : O} {v : V}, Vo I adr o v → Vo I' adr o v
  | .no, _, _ => True.intro
  | .dat _, _, h => Rep.mono e h
  | .adr _, _, h => h
  | .scr _ _, _, h => ⟨h.1, fun o q => e _ _ (h.2 o q)⟩
theorem Vo.more {nw : List Addr} : ∀ {o : O} {v : V}, Vo I adr o v → Vo I (adr ++ nw) o v
  | .no, _, _ => True.intro
  | .dat _, _, h => h
  | .adr _, _, h => by
    obtain ⟨a, h1, h2⟩ := h
    exact ⟨a, by rw [List.getElem?_append_left (List.getElem?_eq_some_iff.mp h1).1]; exact h1, h2⟩
  | .scr _ _, _, h => h
theorem Vs.mono (g : Grow I H adr I' H' adr') : ∀ {os : List O} {vs : List V}, Vs I adr os vs → Vs I' adr' os vs
  | _, _, .nil => .nil
  | _, _, .cons h r => .cons (Vo.mono g h) (Vs.mono g r)
theorem Vs.ext (e : Ex I I') : ∀ {os : List O} {vs : List V}, Vs I adr os vs → Vs I' adr os vs
  | _, _, .nil => .nil
  | _, _, .cons h r => .cons (Vo.ext e h) (Vs.ext e r)
theorem Vs.more {nw : List Addr} : ∀ {os : List O} {vs : List V}, Vs I adr os vs → Vs I (adr ++ nw) os vs
  | _, _, .nil => .nil
  | _, _, .cons h r => .cons (Vo.more h) (Vs.more r)
theorem Vs.app : ∀ {os ps : List O} {vs ws : List V}, Vs I adr os vs → Vs I adr ps ws → Vs I adr (os ++ ps) (vs ++ ws)
  | _, _, _, _, .nil, s => s
  | _, _, _, _, .cons h r, s => .cons h (Vs.app r s)
theorem Vs.length {os : List O} {vs : List V} (h : Vs I adr os vs) : os.length = vs.length := Paired.length h
theorem Vs.get : ∀ {os : List O} {vs : List V} {i : Nat} {o : O}, Vs I adr os vs → os[i]? = some o → ∃ v, vs[i]? = some v ∧ Vo I adr o v
  | _, _, _, _, .nil, e => by simp at e
  | _, _, 0, _, .cons h _, e => by
    simp at e
    subst e
    exact ⟨_, rfl, h⟩
  | _, _, i + 1, _, .cons _ r, e => by
    obtain ⟨v, h1, h2⟩ := Vs.get (i := i) r (by simpa using e)
    exact ⟨v, by simpa using h1, h2⟩
theorem Vs.set {o : O} {v : V} (h : Vo I adr o v) : ∀ {os : List O} {vs : List V} (i : Nat), Vs I adr os vs → Vs I adr (os.set i o) (vs.set i v)
  | _, _, _, .nil => .nil
  | _, _, 0, .cons _ r => .cons h r
  | _, _, i + 1, .cons q r => .cons q (Vs.set h i r)
theorem Vs.take : ∀ {os : List O} {vs : List V} (n : Nat), Vs I adr os vs → Vs I adr (os.take n) (vs.take n)
  | _, _, 0, _ => .nil
  | _, _, _ + 1, .nil => .nil
  | _, _, n + 1, .cons h r => .cons h (Vs.take n r)
theorem Vs.drop : ∀ {os : List O} {vs : List V} (n : Nat), Vs I adr os vs → Vs I adr (os.drop n) (vs.drop n)
  | _, _, 0, r => r
  | _, _, _ + 1, .nil => .nil
  | _, _, n + 1, .cons _ r => Vs.drop n r
theorem Vs.dropLast : ∀ {os : List O} {vs : List V}, Vs I adr os vs → Vs I adr os.dropLast vs.dropLast
  | _, _, .nil => .nil
  | _, _, .cons _ .nil => .nil
  | _, _, .cons h (.cons h2 r) => .cons h (Vs.dropLast (.cons h2 r))
theorem Vs.reps : ∀ {ds : List D} {vs : List V}, Reps I ds vs → Vs I adr (ds.map .dat) vs
  | _, _, .nil => .nil
  | _, _, .cons h r => .cons h (Vs.reps r)
theorem Vs.to : ∀ {ds : List D} {vs : List V}, Vs I adr (ds.map .dat) vs → Reps I ds vs
  | [], _, .nil => .nil
  | _ :: _, _, .cons h r => .cons h (Vs.to r)
theorem Vso.mono (g : Grow I H adr I' H' adr') {o : O} : ∀ {ov : Option V}, Vso I adr o ov → Vso I' adr' o ov
  | some _, h => Vo.mono g h
  | none, h => h
theorem Stt.mono (s : Stt I H adr σ E M) (g : Grow I H adr I' H' adr') (e : Ex I' H') (t : Sto I' H' adr' M') : Stt I' H' adr' σ E M' :=
  ⟨e, t, s.len, fun i o ov h1 h2 => (s.slot i o ov h1 h2).mono g⟩
theorem Stt.inB (s : Stt I H adr σ E M) {k : Nat} {a : Addr} (h : adr[k]? = some a) : k < M.length := by
  rw [← s.sto.len]
  exact (List.getElem?_eq_some_iff.mp h).1
/-- a new thing that never changes -/
theorem Sto.ext {o : HO} {p : Addr} (t : Sto I H adr M) (hi : I p = none) (hp : H p = none) : Sto (upd I p o) (upd H p o) adr M := by
  have ne : ∀ (k : Nat) (a : Addr), adr[k]? = some a → a ≠ p := fun k a h => by
    obtain ⟨u, e⟩ := t.dom k a h
    exact ne_of_none e hp
  refine ⟨t.len, t.nd, fun k a os h1 h2 => ?_, fun k a h => ?_⟩
  · obtain ⟨h3, xs, h4, h5⟩ := t.cell k a os h1 h2
    refine ⟨by rw [upd_ne (ne k a h1)]; exact h3, xs, by rw [upd_ne (ne k a h1)]; exact h4, ?_⟩
    exact h5.ext (Ex.new hi)
  · obtain ⟨u, e⟩ := t.dom k a h
    exact ⟨u, by rw [upd_ne (ne k a h)]; exact e⟩
theorem Grow.ext {o : HO} {p : Addr} (hi : I p = none) (hp : H p = none) : Grow I H adr (upd I p o) (upd H p o) adr := by
  refine ⟨Ex.new hi, ⟨[], by simp, by simp⟩, fun q u h _ => ?_, fun q u h => ⟨u, ?_⟩, fun q u h h2 _ => ?_⟩
  · rw [upd_ne (ne_of_none h hp)]; exact h
  · rw [upd_ne (ne_of_none h hp)]; exact h
  · rw [upd_ne (ne_of_none h hp)]; exact h2
theorem Stt.ext {o : HO} {p : Addr} (s : Stt I H adr σ E M) (hp : H p = none) : Stt (upd I p o) (upd H p o) adr σ E M ∧ Grow I H adr (upd I p o) (upd H p o) adr := by
  have hi := s.ex.non hp
  have g : Grow I H adr (upd I p o) (upd H p o) adr := Grow.ext hi hp
  exact ⟨s.mono g s.ex.upd (s.sto.ext hi hp), g⟩
theorem Stt.tup {p : Addr} {xs : List V} {ds : List D} (s : Stt I H adr σ E M) (hp : H p = none) (r : Reps I ds xs) :
    Stt (upd I p (.tup xs)) (upd H p (.tup xs)) adr σ E M ∧ Grow I H adr (upd I p (.tup xs)) (upd H p (.tup xs)) adr ∧ Rep (upd I p (.tup xs)) (.tup ds) (.ref p) :=
  let ⟨a, b⟩ := s.ext (o := .tup xs) hp
  ⟨a, b, .tup upd_same (r.mono b.ex)⟩
theorem Stt.lst {p : Addr} {xs : List V} {ds : List D} (s : Stt I H adr σ E M) (hp : H p = none) (r : Reps I ds xs) :
    Stt (upd I p (.lst xs)) (upd H p (.lst xs)) adr σ E M ∧ Grow I H adr (upd I p (.lst xs)) (upd H p (.lst xs)) adr ∧ Rep (upd I p (.lst xs)) (.lst ds) (.ref p) :=
  let ⟨a, b⟩ := s.ext (o := .lst xs) hp
  ⟨a, b, .lst upd_same (r.mono b.ex)⟩
/-- a new cell -/
theorem Stt.cel {p : Addr} {xs : List V} {os : List O} (s : Stt I H adr σ E M) (hp : H p = none) (r : Vs I adr os xs) :
    Stt I (upd H p (.lst xs)) (adr ++ [p]) σ E (M ++ [some os]) ∧ Grow I H adr I (upd H p (.lst xs)) (adr ++ [p]) ∧ (adr ++ [p])[M.length]? = some p := by
  have hi := s.ex.non hp
  have ne : ∀ (k : Nat) (a : Addr), adr[k]? = some a → a ≠ p := fun k a h => by
    obtain ⟨u, e⟩ := s.sto.dom k a h
    exact ne_of_none e hp
  have g : Grow I H adr I (upd H p (.lst xs)) (adr ++ [p]) := by
    refine ⟨Ex.refl _, ⟨[p], rfl, fun q hq => by rw [List.mem_singleton.mp hq]; exact hp⟩, fun q u h _ => ?_, fun q u h => ⟨u, ?_⟩, fun q u h h2 _ => h2⟩
    · rw [upd_ne (ne_of_none h hp)]; exact h
    · rw [upd_ne (ne_of_none h hp)]; exact h
  have at_p : (adr ++ [p])[M.length]? = some p := by
    rw [← s.sto.len, List.getElem?_append_right (Nat.le_refl _), Nat.sub_self]
    rfl
  have old : ∀ (k : Nat) (a : Addr), (adr ++ [p])[k]? = some a → (k < adr.length ∧ adr[k]? = some a) ∨ (k = adr.length ∧ a = p) := fun k a h => by
    by_cases hk : k < adr.length
    · rw [List.getElem?_append_left hk] at h
      exact .inl ⟨hk, h⟩
    · rw [List.getElem?_append_right (Nat.le_of_not_lt hk)] at h
      have hk2 : k - adr.length = 0 := by
        have := (List.getElem?_eq_some_iff.mp h).1
        simp at this
        omega
      rw [hk2] at h
      simp at h
      exact .inr ⟨by omega, h.symm⟩
  refine ⟨s.mono g (s.ex.mut hi) ⟨by simp [s.sto.len], ?_, fun k a os' h1 h2 => ?_, fun k a h => ?_⟩, g, at_p⟩
  · rw [List.nodup_append]
    refine ⟨s.sto.nd, by simp, fun a ha b hb z => ?_⟩
    obtain ⟨k, hk⟩ := List.getElem?_of_mem ha
    rw [List.mem_singleton] at hb
    exact ne k a hk (z.trans hb)
  · rcases old k a h1 with ⟨hk, h3⟩ | ⟨hk, rfl⟩
    · rw [List.getElem?_append_left (by rw [← s.sto.len]; exact hk)] at h2
      obtain ⟨c1, ys, c2, c3⟩ := s.sto.cell k a os' h3 h2
      exact ⟨c1, ys, by rw [upd_ne (ne k a h3)]; exact c2, c3.more⟩
    · rw [hk, s.sto.len, List.getElem?_append_right (Nat.le_refl _), Nat.sub_self] at h2
      have e : os = os' := by simpa using h2
      subst e
      exact ⟨hi, xs, upd_same, r.more⟩
  · rcases old k a h with ⟨hk, h3⟩ | ⟨hk, rfl⟩
    · obtain ⟨u, e⟩ := s.sto.dom k a h3
      exact ⟨u, by rw [upd_ne (ne k a h3)]; exact e⟩
    · exact ⟨_, upd_same⟩
/-- a cell is written -/
theorem Stt.wri {k : Nat} {a : Addr} {xs : List V} {os os0 : List O} (s : Stt I H adr σ E M) (ha : adr[k]? = some a) (hm : M[k]? = some (some os0)) (r : Vs I adr os xs) :
    Stt I (upd H a (.lst xs)) adr σ E (M.set k (some os)) ∧ Grow I H adr I (upd H a (.lst xs)) adr := by
  obtain ⟨hi, ys, hy, _⟩ := s.sto.cell k a os0 ha hm
  have hin : a ∈ adr := List.mem_of_getElem? ha
  have g : Grow I H adr I (upd H a (.lst xs)) adr := by
    refine ⟨Ex.refl _, ⟨[], by simp, by simp⟩, fun q u h hq => ?_, fun q u h => ?_, fun q u h h2 _ => h2⟩
    · rw [upd_ne (fun z => hq (by rw [z]; exact hin))]; exact h
    · by_cases z : q = a
      · subst z; exact ⟨_, upd_same⟩
      · exact ⟨u, by rw [upd_ne z]; exact h⟩
  have uniq : ∀ (j : Nat) (b : Addr), adr[j]? = some b → j ≠ k → b ≠ a := fun j b hb hj z => by
    subst z
    exact hj (List.getElem?_inj (List.getElem?_eq_some_iff.mp hb).1 s.sto.nd |>.mp (hb.trans ha.symm))
  refine ⟨s.mono g (s.ex.mut hi) ⟨by rw [List.length_set]; exact s.sto.len, s.sto.nd, fun j b ps h1 h2 => ?_, fun j b h => ?_⟩, g⟩
  · by_cases hj : j = k
    · subst hj
      rw [h1] at ha
      cases ha
      rw [List.getElem?_set_self (s.inB h1)] at h2
      have e : os = ps := by simpa using h2
      subst e
      exact ⟨hi, xs, upd_same, r⟩
    · rw [List.getElem?_set_ne (fun z => hj z.symm)] at h2
      obtain ⟨c1, zs, c2, c3⟩ := s.sto.cell j b ps h1 h2
      exact ⟨c1, zs, by rw [upd_ne (uniq j b h1 hj)]; exact c2, c3⟩
  · by_cases z : b = a
    · subst z; exact ⟨_, upd_same⟩
    · obtain ⟨u, e⟩ := s.sto.dom j b h
      exact ⟨u, by rw [upd_ne z]; exact e⟩
/-- a cell of data is frozen -/
theorem Stt.frz {k : Nat} {a : Addr} {ds : List D} (s : Stt I H adr σ E M) (ha : adr[k]? = some a) (hm : M[k]? = some (some (ds.map .dat))) :
    ∃ I', Stt I' H adr σ E (M.set k none) ∧ Grow I H adr I' H adr ∧ Rep I' (.lst ds) (.ref a) := by
  obtain ⟨hi, ys, hy, hr⟩ := s.sto.cell k a _ ha hm
  have hin : a ∈ adr := List.mem_of_getElem? ha
  have g : Grow I H adr (upd I a (.lst ys)) H adr := by
    refine ⟨Ex.new hi, ⟨[], by simp, by simp⟩, fun q u h hq => h, fun q u h => ⟨u, h⟩, fun q u h h2 hq => ?_⟩
    rw [upd_ne (fun z => hq (by rw [z]; exact hin))]; exact h2
  have ex : Ex (upd I a (.lst ys)) H := fun q u h => by
    by_cases z : q = a
    · subst z; rw [upd_same] at h; cases h; exact hy
    · rw [upd_ne z] at h; exact s.ex q u h
  refine ⟨upd I a (.lst ys), s.mono g ex ⟨by rw [List.length_set]; exact s.sto.len, s.sto.nd, fun j b ps h1 h2 => ?_, s.sto.dom⟩, g, .lst upd_same (hr.to.mono g.ex)⟩
  by_cases hj : j = k
  · subst hj
    rw [List.getElem?_set_self (s.inB h1)] at h2
    cases h2
  · rw [List.getElem?_set_ne (fun z => hj z.symm)] at h2
    obtain ⟨c1, zs, c2, c3⟩ := s.sto.cell j b ps h1 h2
    have ne : b ≠ a := fun z => by
      subst z
      exact hj (List.getElem?_inj (List.getElem?_eq_some_iff.mp h1).1 s.sto.nd |>.mp (h1.trans ha.symm))
    exact ⟨by rw [upd_ne ne]; exact c1, zs, c2, c3.ext g.ex⟩
theorem Stt.set {i : Nat} {o : O} {v : V} (s : Stt I H adr σ E M) (h : Vo I adr o v) : Stt I H adr (σ.set i (some v)) (E.set i o) M := by
  refine ⟨s.ex, s.sto, by rw [List.length_set, List.length_set]; exact s.len, fun j p ov h1 h2 => ?_⟩
  by_cases hj : j = i
  · subst hj
    by_cases hl : j < E.length
    · rw [List.getElem?_set_self hl] at h1
      rw [List.getElem?_set_self (by rw [← s.len]; exact hl)] at h2
      cases h1
      cases h2
      exact h
    · have := (List.getElem?_eq_some_iff.mp h1).1
      rw [List.length_set] at this
      exact absurd this hl
  · rw [List.getElem?_set_ne (fun z => hj z.symm)] at h1 h2
    exact s.slot j p ov h1 h2
theorem Stt.frame {k : Nat} (s : Stt I H adr σ E M) : Stt I H adr [] [] M := ⟨s.ex, s.sto, rfl, fun i o ov h _ => by simp at h⟩
end
end Ab
/-! Ab: judgements. -/
namespace Ab
open PySem PySem.Spec PyProof.Rows L2

/-! ### readings -/
def Ev (t : TE) (E : List O) (M : Mem) (o : O) (M' : Mem) : Prop :=
  ∀ (I H : Hp) (adr : List Addr) (σ : L2.St) (Q : VK), Stt I H adr σ E M → (∀ v I' H' adr', Stt I' H' adr' σ E M' → Grow I H adr I' H' adr' → Vo I' adr' o v → Q v H') → t σ H Q
def Et (t : TT) (E : List O) (M : Mem) (b : Bool) (M' : Mem) : Prop :=
  ∀ (I H : Hp) (adr : List Addr) (σ : L2.St) (Q : Bool → Hp → Prop), Stt I H adr σ E M → (∀ I' H' adr', Stt I' H' adr' σ E M' → Grow I H adr I' H' adr' → Q b H') → t σ H Q
def Ea (t : TA) (E : List O) (M : Mem) (os : List O) (M' : Mem) : Prop :=
  ∀ (I H : Hp) (adr : List Addr) (σ : L2.St) (Q : List V → Hp → Prop), Stt I H adr σ E M → (∀ vs I' H' adr', Stt I' H' adr' σ E M' → Grow I H adr I' H' adr' → Vs I' adr' os vs → Q vs H') → t σ H Q
inductive Out where
  | nx (E : List O) (M : Mem) | rt (o : O) (M : Mem) | bk (E : List O) (M : Mem) | ct (E : List O) (M : Mem)
def End (D : Ends) (I H : Hp) (adr : List Addr) : Out → Prop
  | .nx E M => ∀ I' H' adr' σ', Stt I' H' adr' σ' E M → Grow I H adr I' H' adr' → D.nx σ' H'
  | .rt o M => ∀ v I' H' adr', Stt I' H' adr' [] [] M → Grow I H adr I' H' adr' → Vo I' adr' o v → D.rt v H'
  | .bk E M => ∀ I' H' adr' σ', Stt I' H' adr' σ' E M → Grow I H adr I' H' adr' → D.bk σ' H'
  | .ct E M => ∀ I' H' adr' σ', Stt I' H' adr' σ' E M → Grow I H adr I' H' adr' → D.ct σ' H'
theorem End.mono {D : Ends} {I H I1 H1 : Hp} {adr adr1 : List Addr} (g : Grow I H adr I1 H1 adr1) : ∀ {r : Out}, End D I H adr r → End D I1 H1 adr1 r
  | .nx _ _, h => fun I' H' adr' σ' s k => h I' H' adr' σ' s (g.trans k)
  | .rt _ _, h => fun v I' H' adr' s k => h v I' H' adr' s (g.trans k)
  | .bk _ _, h => fun I' H' adr' σ' s k => h I' H' adr' σ' s (g.trans k)
  | .ct _ _, h => fun I' H' adr' σ' s k => h I' H' adr' σ' s (g.trans k)
def Do (t : TS) (E : List O) (M : Mem) (r : Out) : Prop :=
  ∀ (I H : Hp) (adr : List Addr) (σ : L2.St) (D : Ends), Stt I H adr σ E M → End D I H adr r → t D σ H

/-! ### contexts -/
structure Pg where
  P : Program
  w : World
  K : PySem.W.Frag
  mg : Str → Option Value
  base : Heap
structure Cc where
  g : Pg
  N : List Str
  sc : Scope
  fn : Str → Bool
  k : Nat
structure CxIs (C : Cc) (X : Cx) : Prop where
  P : X.prog = C.g.P
  w : X.w = C.g.w
  K : X.K = C.g.K
  mg : X.mg = C.g.mg
  base : X.base = C.g.base
  N : X.N = C.N
  sc : X.env.scope = C.sc
  calm : X.calm = true
  room : Room C.k X.A
  nox : X.xe = fun _ _ => False
  fn : ∀ x, C.fn x = true → X.fn x = true

def UE (C : Cc) (e : Expr) : TE := fun σ H Q => ∃ t : TE, (∀ X, CxIs C X → PE X e t) ∧ t σ H Q
def UT (C : Cc) (e : Expr) : TT := fun σ H Q => ∃ t : TT, (∀ X, CxIs C X → PT X e t) ∧ t σ H Q
def UW (C : Cc) (e : Expr) : TT := fun σ H Q => ∃ t : TT, (∀ X, CxIs C X → PW X e t) ∧ t σ H Q
def UA (C : Cc) (es : List Expr) : TA := fun σ H Q => ∃ t : TA, (∀ X, CxIs C X → PA X es t) ∧ t σ H Q
def US (C : Cc) (st : Stmt) : TS := fun D σ H => ∃ t : TS, (∀ X, CxIs C X → PS X st t) ∧ t D σ H
def UB (C : Cc) (sts : List Stmt) : TS := fun D σ H => ∃ t : TS, (∀ X, CxIs C X → PSs X sts t) ∧ t D σ H
theorem ue {C : Cc} {X : Cx} (h : CxIs C X) (e : Expr) : PE X e (UE C e) := ⟨fun pins s σ H Q I q => let ⟨_, p, q⟩ := q; (p X h).run pins s σ H Q I q⟩
theorem ut {C : Cc} {X : Cx} (h : CxIs C X) (e : Expr) : PT X e (UT C e) := ⟨fun pins s σ H Q I q => let ⟨_, p, q⟩ := q; (p X h).run pins s σ H Q I q⟩
theorem uw {C : Cc} {X : Cx} (h : CxIs C X) (e : Expr) : PW X e (UW C e) := ⟨fun wh pins s σ H Q I q => let ⟨_, p, q⟩ := q; (p X h).run wh pins s σ H Q I q⟩
theorem ua {C : Cc} {X : Cx} (h : CxIs C X) (es : List Expr) : PA X es (UA C es) := ⟨fun pos pins s σ H Q I q => let ⟨_, p, q⟩ := q; (p X h).run pos pins s σ H Q I q⟩
theorem us {C : Cc} {X : Cx} (h : CxIs C X) (st : Stmt) : PS X st (US C st) := ⟨fun pins s σ H D I q => let ⟨_, p, q⟩ := q; (p X h).run pins s σ H D I q⟩
theorem ub {C : Cc} {X : Cx} (h : CxIs C X) (sts : List Stmt) : PSs X sts (UB C sts) := ⟨fun pins s σ H D I q => let ⟨_, p, q⟩ := q; (p X h).run pins s σ H D I q⟩

def EV (C : Cc) (e : Expr) (E : List O) (M : Mem) (o : O) (M' : Mem) : Prop := Ev (UE C e) E M o M'
def ET (C : Cc) (e : Expr) (E : List O) (M : Mem) (b : Bool) (M' : Mem) : Prop := Et (UT C e) E M b M'
def EW (C : Cc) (e : Expr) (E : List O) (M : Mem) (b : Bool) (M' : Mem) : Prop := Et (UW C e) E M b M'
def EA (C : Cc) (es : List Expr) (E : List O) (M : Mem) (os : List O) (M' : Mem) : Prop := Ea (UA C es) E M os M'
def ST (C : Cc) (st : Stmt) (E : List O) (M : Mem) (r : Out) : Prop := Do (US C st) E M r
def SB (C : Cc) (sts : List Stmt) (E : List O) (M : Mem) (r : Out) : Prop := Do (UB C sts) E M r

section
variable {C : Cc} {E : List O} {M M1 M2 M3 M' : Mem} {o o1 o2 o3 : O} {os : List O} {e a b c : Expr} {pos pos' : Pos} {r : Out} {d d1 d2 : D} {ta tb te : TE}
theorem EV.mk {t : TE} (h1 : ∀ X, CxIs C X → PE X e t) (h2 : Ev t E M o M') : EV C e E M o M' := fun I H adr σ Q s q => ⟨t, h1, h2 I H adr σ Q s q⟩
theorem ET.mk {t : TT} {b : Bool} (h1 : ∀ X, CxIs C X → PT X e t) (h2 : Et t E M b M') : ET C e E M b M' := fun I H adr σ Q s q => ⟨t, h1, h2 I H adr σ Q s q⟩
theorem EW.mk {t : TT} {b : Bool} (h1 : ∀ X, CxIs C X → PW X e t) (h2 : Et t E M b M') : EW C e E M b M' := fun I H adr σ Q s q => ⟨t, h1, h2 I H adr σ Q s q⟩
theorem EA.mk {es : List Expr} {t : TA} (h1 : ∀ X, CxIs C X → PA X es t) (h2 : Ea t E M os M') : EA C es E M os M' := fun I H adr σ Q s q => ⟨t, h1, h2 I H adr σ Q s q⟩
theorem ST.mk {st : Stmt} {t : TS} (h1 : ∀ X, CxIs C X → PS X st t) (h2 : Do t E M r) : ST C st E M r := fun I H adr σ D s q => ⟨t, h1, h2 I H adr σ D s q⟩
theorem SB.mk {sts : List Stmt} {t : TS} (h1 : ∀ X, CxIs C X → PSs X sts t) (h2 : Do t E M r) : SB C sts E M r := fun I H adr σ D s q => ⟨t, h1, h2 I H adr σ D s q⟩

/-! ### names, constants -/
theorem EV.to {o' : O} (h : EV C e E M o M') (q : o = o') : EV C e E M o' M' := q ▸ h
theorem ev_name {i : Nat} (h : E[i]? = some o) (hn : o ≠ .no) : Ev (tVar i) E M o M := fun I H adr σ Q s q => by
  have hl : i < σ.length := by
    rw [← s.len]
    exact (List.getElem?_eq_some_iff.mp h).1
  have h2 : σ[i]? = some σ[i] := List.getElem?_eq_getElem hl
  have h3 := s.slot i o _ h h2
  cases hv : σ[i] with
  | none =>
    rw [hv] at h3
    exact absurd h3 hn
  | some v =>
    rw [hv] at h3 h2
    exact ⟨v, h2, q v I H adr s Grow.refl h3⟩
theorem EV.nm (i : Nat) {x : Str} (hN : C.N[i]? = some x := by rfl) (h : E[i]? = some o := by rfl) (hn : o ≠ .no := by intro z; cases z) (hv : Vis C.sc x := by first | exact Or.inl rfl | exact Or.inr (Or.inl rfl) | exact Or.inr (Or.inr rfl))
    (hd : (x == ("__debug__" : Str)) = false := by decide) (hcd : (x == ("__classdict__" : Str)) = false := by decide) : EV C (.Name x pos) E M o M :=
  EV.mk (fun X hX => pe_var (by rw [hX.N]; exact hN) (by rw [hX.sc]; exact hv) hd hcd) (ev_name h hn)
theorem ev_c {v : V} (h : ∀ I, Rep I d v) : Ev (tC v) E M (.dat d) M := fun I H adr σ Q s q => q v I H adr s Grow.refl (h I)
theorem EV.int {i : Int} {j : Nat} : EV C (.Constant (.int i) j pos) E M (.dat (.int i)) M := EV.mk (fun _ _ => pe_int) (ev_c fun _ => .int i)
theorem EV.bl {i : Bool} {j : Nat} : EV C (.Constant (.bool i) j pos) E M (.dat (.bl i)) M := EV.mk (fun _ _ => pe_bl) (ev_c fun _ => .bl i)
theorem EV.non {j : Nat} : EV C (.Constant .none j pos) E M (.dat .non) M := EV.mk (fun _ _ => pe_non) (ev_c fun _ => .non)
theorem EV.str {x : Str} {j : Nat} : EV C (.Constant (.str x) j pos) E M (.dat (.str x)) M := EV.mk (fun _ _ => pe_str) (ev_c fun _ => .str x)
theorem EV.gint {x : Str} {i : Int} {t : Tok} (hm : C.g.mg x = some (.int i t)) (hg : C.sc.names.lookup x = some .globalImplicit := by rfl) (hd : (x == ("__debug__" : Str)) = false := by decide) : EV C (.Name x pos) E M (.dat (.int i)) M :=
  EV.mk (fun X hX => pe_glob (v := .int i) (u := .int i t) (by show X.env.scope.names.lookup x = _; rw [hX.sc]; exact hg) (by rw [hX.mg]; exact hm) ⟨t, rfl⟩ hd) (ev_c fun _ => .int i)

/-! ### operators -/
def RO (r : R2) (o1 o2 : O) (M : Mem) (o : O) (M' : Mem) : Prop :=
  ∀ (I H : Hp) (adr : List Addr) (σ : L2.St) (E : List O) (v w : V) (Q : VK), Stt I H adr σ E M → Vo I adr o1 v → Vo I adr o2 w → (∀ z I' H' adr', Stt I' H' adr' σ E M' → Grow I H adr I' H' adr' → Vo I' adr' o z → Q z H') → r v w H Q
theorem ev_op {r : R2} (ha : Ev ta E M o1 M1) (hb : Ev tb E M1 o2 M2) (hr : RO r o1 o2 M2 o M') : Ev (tOp r ta tb) E M o M' := fun I H adr σ Q s q =>
  ha I H adr σ _ s fun v I1 H1 adr1 s1 g1 v1 => hb I1 H1 adr1 σ _ s1 fun w I2 H2 adr2 s2 g2 w2 =>
    hr I2 H2 adr2 σ E v w Q s2 (v1.mono g2) w2 fun z I3 H3 adr3 s3 g3 z3 => q z I3 H3 adr3 s3 ((g1.trans g2).trans g3) z3
theorem EV.op {op : Operator} {r : R2} (ha : EV C a E M o1 M1) (hb : EV C b E M1 o2 M2) (ho : ∀ X, CxIs C X → OpR X (binaryOp op) r) (hr : RO r o1 o2 M2 o M') : EV C (.BinOp a op b pos) E M o M' :=
  EV.mk (fun X hX => pe_op (ho X hX) (ue hX a) (ue hX b)) (ev_op ha hb hr)
theorem EV.cmp {op : CmpOp} {r : R2} (ha : EV C a E M o1 M1) (hb : EV C b E M1 o2 M2) (ho : ∀ X, CxIs C X → OpR X (compareOp op) r) (hr : RO r o1 o2 M2 o M') (hm : behindInMarks op b = false) : EV C (.Compare a [op] [b] pos) E M o M' :=
  EV.mk (fun X hX => pe_cmpR (ho X hX) (ue hX a) (ue hX b) hm) (ev_op ha hb hr)
theorem et_test {b : Bool} (h : Ev te E M (.dat (.bl b)) M') : Et (tTest te) E M b M' := fun I H adr σ Q s q =>
  h I H adr σ _ s fun v I1 H1 adr1 s1 g1 v1 => by
    cases (show Rep I1 (.bl b) v from v1)
    exact ⟨b, rfl, q I1 H1 adr1 s1 g1⟩
theorem et_B {b : Bool} (h : Ev te E M (.dat (.bl b)) M') : Et (tB te) E M b M' := fun I H adr σ Q s q =>
  h I H adr σ _ s fun v I1 H1 adr1 s1 g1 v1 => by
    cases (show Rep I1 (.bl b) v from v1)
    exact ⟨b, rfl, q I1 H1 adr1 s1 g1⟩
theorem ET.cmp {op : CmpOp} {r : R2} {k : Bool} (ha : EV C a E M o1 M1) (hb : EV C b E M1 o2 M2) (ho : ∀ X, CxIs C X → OpR X (compareOp op) r) (hr : RO r o1 o2 M2 (.dat (.bl k)) M') (hm : behindInMarks op b = false) : ET C (.Compare a [op] [b] pos) E M k M' :=
  ET.mk (fun X hX => pt_cmpR (ho X hX) (ue hX a) (ue hX b) hm) (et_test (ev_op ha hb hr))
/-- a test by its value, a bool -/
theorem ET.val {k : Bool} (h : EV C e E M (.dat (.bl k)) M') (he : ∀ env whole, isTrue e env whole = (do let v ← whole; standAt e.pos; holding [v] (truthy v)) := by intro _ _; rfl) : ET C e E M k M' :=
  ET.mk (fun X hX => pt_val (ue hX e) (he X.env)) (et_B h)
theorem tru_lst {K : PySem.W.Frag} {H : Hp} {p : Addr} {xs : List V} (h : H p = some (.lst xs)) : TruV K (.ref p) H (!xs.isEmpty) := .inl ⟨xs, .inl (.inl h), rfl⟩
theorem tru_tup {K : PySem.W.Frag} {H : Hp} {p : Addr} {xs : List V} (h : H p = some (.tup xs)) : TruV K (.ref p) H (!xs.isEmpty) := .inr (.inl ⟨xs, .inl (.inl h), rfl⟩)
/-- a value's truth -/
def tru : D → Option Bool
  | .non => some false
  | .bl b => some b
  | .int i => some (i != 0)
  | .lst ds => some (!ds.isEmpty)
  | .tup ds => some (!ds.isEmpty)
  | _ => none
theorem isEmpty_reps {I : Hp} {ds : List D} {xs : List V} (r : Reps I ds xs) : ds.isEmpty = xs.isEmpty := by cases r <;> rfl
theorem tru_of {K : PySem.W.Frag} {I H : Hp} {v : V} {k : Bool} (e : Ex I H) (h : Rep I d v) (t : tru d = some k) : TruV K v H k := by
  cases h with
  | non => exact (Option.some.inj t).symm
  | bl b => exact (Option.some.inj t).symm
  | int i => exact (Option.some.inj t).symm
  | str s => cases t
  | tup h r =>
    cases t
    rw [isEmpty_reps r]
    exact tru_tup (e _ _ h)
  | lst h r =>
    cases t
    rw [isEmpty_reps r]
    exact tru_lst (e _ _ h)
  | dct h r => cases t
theorem ET.tru {k : Bool} (h : EV C e E M (.dat d) M') (t : tru d = some k) (he : ∀ env whole, isTrue e env whole = (do let v ← whole; standAt e.pos; holding [v] (truthy v)) := by intro _ _; rfl) : ET C e E M k M' :=
  ET.mk (t := fun σ H Q => UE C e σ H fun x H' => ∃ k, TruV C.g.K x H' k ∧ Q k H') (fun X hX => by
    have := pt_truth (ue hX e) (he X.env)
    rw [hX.K] at this
    exact this) fun I H adr σ Q s q => h I H adr σ _ s fun v I1 H1 adr1 s1 g1 v1 => ⟨k, tru_of s1.ex v1 t, q I1 H1 adr1 s1 g1⟩

/-! ### and, or, not -/
theorem pt_dead {X : Cx} : PT X e (fun _ _ _ => False) := ⟨fun _ _ _ _ _ _ h => h.elim⟩
theorem pw_dead {X : Cx} : PW X e (fun _ _ _ => False) := ⟨fun _ _ _ _ _ _ _ h => h.elim⟩
theorem pe_dead {X : Cx} : PE X e (fun _ _ _ => False) := ⟨fun _ _ _ _ _ _ h => h.elim⟩
theorem EW.et {k : Bool} (h : EW C e E M k M') : ET C e E M k M' := ET.mk (fun X hX => (uw hX e).pt) h
theorem EW.and1 {k : Bool} (h : ET C a E M k M') : EW C (.BoolOp .And [a] pos) E M k M' := EW.mk (fun X hX => pw_and1 (ut hX a)) h
theorem EW.or1 {k : Bool} (h : ET C a E M k M') : EW C (.BoolOp .Or [a] pos) E M k M' := EW.mk (fun X hX => pw_or1 (ut hX a)) h
theorem EW.and {k1 k2 : Bool} {rest : List Expr} (ha : ET C a E M k1 M1) (hb : k1 = true → EW C (.BoolOp .And (b :: rest) pos) E M1 k2 M2) (hm : k1 = false → M2 = M1) : EW C (.BoolOp .And (a :: b :: rest) pos) E M (k1 && k2) M2 := by
  cases k1 with
  | true =>
    refine EW.mk (fun X hX => pw_and (ut hX a) (uw hX _)) fun I H adr σ Q s q => ?_
    refine ha I H adr σ _ s fun I1 H1 adr1 s1 g1 => ?_
    show UW C _ σ H1 Q
    exact hb rfl I1 H1 adr1 σ Q s1 fun I2 H2 adr2 s2 g2 => q I2 H2 adr2 s2 (g1.trans g2)
  | false =>
    cases hm rfl
    refine EW.mk (fun X hX => pw_and (ut hX a) pw_dead) fun I H adr σ Q s q => ?_
    refine ha I H adr σ _ s fun I1 H1 adr1 s1 g1 => ?_
    show Q false H1
    exact q I1 H1 adr1 s1 g1
theorem EW.or {k1 k2 : Bool} {rest : List Expr} (ha : ET C a E M k1 M1) (hb : k1 = false → EW C (.BoolOp .Or (b :: rest) pos) E M1 k2 M2) (hm : k1 = true → M2 = M1) : EW C (.BoolOp .Or (a :: b :: rest) pos) E M (k1 || k2) M2 := by
  cases k1 with
  | false =>
    refine EW.mk (fun X hX => pw_or (ut hX a) (uw hX _)) fun I H adr σ Q s q => ?_
    refine ha I H adr σ _ s fun I1 H1 adr1 s1 g1 => ?_
    show UW C _ σ H1 Q
    exact hb rfl I1 H1 adr1 σ Q s1 fun I2 H2 adr2 s2 g2 => q I2 H2 adr2 s2 (g1.trans g2)
  | true =>
    cases hm rfl
    refine EW.mk (fun X hX => pw_or (ut hX a) pw_dead) fun I H adr σ Q s q => ?_
    refine ha I H adr σ _ s fun I1 H1 adr1 s1 g1 => ?_
    show Q true H1
    exact q I1 H1 adr1 s1 g1
theorem ET.not {k : Bool} (h : ET C a E M k M') : ET C (.UnaryOp .Not a pos) E M (!k) M' :=
  ET.mk (fun X hX => pt_not (ut hX a)) fun I H adr σ Q s q => h I H adr σ _ s fun I1 H1 adr1 s1 g1 => q I1 H1 adr1 s1 g1
/-- the same as values, where all parts are bools -/
theorem EV.and1 (h : EV C a E M o M') : EV C (.BoolOp .And [a] pos) E M o M' := EV.mk (fun X hX => pe_one (ue hX a)) h
theorem EV.or1 (h : EV C a E M o M') : EV C (.BoolOp .Or [a] pos) E M o M' := EV.mk (fun X hX => pe_one (ue hX a)) h
theorem EV.and {k1 k2 : Bool} {rest : List Expr} (ha : EV C a E M (.dat (.bl k1)) M1) (hb : k1 = true → EV C (.BoolOp .And (b :: rest) pos) E M1 (.dat (.bl k2)) M2) (hm : k1 = false → M2 = M1) : EV C (.BoolOp .And (a :: b :: rest) pos) E M (.dat (.bl (k1 && k2))) M2 := by
  cases k1 with
  | true =>
    refine EV.mk (fun X hX => pe_and (ue hX a) (ue hX _)) fun I H adr σ Q s q => ?_
    refine ha I H adr σ _ s fun v I1 H1 adr1 s1 g1 v1 => ?_
    cases (show Rep I1 (.bl true) v from v1)
    refine ⟨true, rfl, ?_⟩
    show UE C _ σ H1 Q
    exact hb rfl I1 H1 adr1 σ Q s1 fun z I2 H2 adr2 s2 g2 z2 => q z I2 H2 adr2 s2 (g1.trans g2) z2
  | false =>
    cases hm rfl
    refine EV.mk (fun X hX => pe_and (ue hX a) pe_dead) fun I H adr σ Q s q => ?_
    refine ha I H adr σ _ s fun v I1 H1 adr1 s1 g1 v1 => ?_
    cases (show Rep I1 (.bl false) v from v1)
    refine ⟨false, rfl, ?_⟩
    show Q (.bl false) H1
    exact q _ I1 H1 adr1 s1 g1 (.bl false)
theorem EV.or {k1 k2 : Bool} {rest : List Expr} (ha : EV C a E M (.dat (.bl k1)) M1) (hb : k1 = false → EV C (.BoolOp .Or (b :: rest) pos) E M1 (.dat (.bl k2)) M2) (hm : k1 = true → M2 = M1) : EV C (.BoolOp .Or (a :: b :: rest) pos) E M (.dat (.bl (k1 || k2))) M2 := by
  cases k1 with
  | false =>
    refine EV.mk (fun X hX => pe_or (ue hX a) (ue hX _)) fun I H adr σ Q s q => ?_
    refine ha I H adr σ _ s fun v I1 H1 adr1 s1 g1 v1 => ?_
    cases (show Rep I1 (.bl false) v from v1)
    refine ⟨false, rfl, ?_⟩
    show UE C _ σ H1 Q
    exact hb rfl I1 H1 adr1 σ Q s1 fun z I2 H2 adr2 s2 g2 z2 => q z I2 H2 adr2 s2 (g1.trans g2) z2
  | true =>
    cases hm rfl
    refine EV.mk (fun X hX => pe_or (ue hX a) pe_dead) fun I H adr σ Q s q => ?_
    refine ha I H adr σ _ s fun v I1 H1 adr1 s1 g1 v1 => ?_
    cases (show Rep I1 (.bl true) v from v1)
    refine ⟨true, rfl, ?_⟩
    show Q (.bl true) H1
    exact q _ I1 H1 adr1 s1 g1 (.bl true)
theorem EV.not {k : Bool} (h : EV C a E M (.dat (.bl k)) M') : EV C (.UnaryOp .Not a pos) E M (.dat (.bl (!k))) M' :=
  EV.mk (fun X hX => pe_not (ue hX a)) fun I H adr σ Q s q => h I H adr σ _ s fun v I1 H1 adr1 s1 g1 v1 => by
    cases (show Rep I1 (.bl k) v from v1)
    exact ⟨k, rfl, q _ I1 H1 adr1 s1 g1 (.bl _)⟩
theorem EV.ite {k : Bool} (hc : ET C c E M k M1) (h1 : k = true → EV C a E M1 o M') (h2 : k = false → EV C b E M1 o M') : EV C (.IfExp c a b pos) E M o M' := by
  cases k with
  | true =>
    refine EV.mk (fun X hX => pe_ifExp (ut hX c) (ue hX a) pe_dead) fun I H adr σ Q s q => ?_
    refine hc I H adr σ _ s fun I1 H1 adr1 s1 g1 => ?_
    show UE C a σ H1 Q
    exact h1 rfl I1 H1 adr1 σ Q s1 fun z I2 H2 adr2 s2 g2 z2 => q z I2 H2 adr2 s2 (g1.trans g2) z2
  | false =>
    refine EV.mk (fun X hX => pe_ifExp (ut hX c) pe_dead (ue hX b)) fun I H adr σ Q s q => ?_
    refine hc I H adr σ _ s fun I1 H1 adr1 s1 g1 => ?_
    show UE C b σ H1 Q
    exact h2 rfl I1 H1 adr1 σ Q s1 fun z I2 H2 adr2 s2 g2 z2 => q z I2 H2 adr2 s2 (g1.trans g2) z2

/-! ### argument lists, tuples, lists -/
theorem EA.nil : EA C [] E M [] M := EA.mk (fun _ _ => pa_nil) fun I H adr σ Q s q => q [] I H adr s Grow.refl .nil
theorem EA.cons {es : List Expr} (h : EV C a E M o M1) (hr : EA C es E M1 os M') (hs : ∀ env, starEach (a :: es) env = (false, eval a env) :: starEach es env := by intro _; rfl) : EA C (a :: es) E M (o :: os) M' :=
  EA.mk (fun X hX => pa_cons (ue hX a) (ua hX es) (hs X.env)) fun I H adr σ Q s q => h I H adr σ _ s fun v I1 H1 adr1 s1 g1 v1 =>
    hr I1 H1 adr1 σ _ s1 fun vs I2 H2 adr2 s2 g2 v2 => q (v :: vs) I2 H2 adr2 s2 (g1.trans g2) (.cons (v1.mono g2) v2)
theorem sz_of {n : Nat} (h : n ≤ 100000) : n ≤ sizeLine := Nat.le_trans h (by decide)
theorem sz_lt {n : Nat} (h : n < 100000) : n < sizeLine := Nat.lt_of_lt_of_le h (by decide)
theorem EV.tup {es : List Expr} {ds : List D} {k : Nat} (h : EA C es E M (ds.map .dat) M') (hz : ds.length ≤ 100000) : EV C (.Tuple es k pos) E M (.dat (.tup ds)) M' :=
  EV.mk (fun X hX => pe_tup (ua hX es)) fun I H adr σ Q s q => h I H adr σ _ s fun vs I1 H1 adr1 s1 g1 v1 =>
    ⟨by rw [← v1.to.length]; exact sz_of hz, fun p hp => let ⟨s2, g2, r2⟩ := s1.tup hp v1.to; q _ _ _ _ s2 (g1.trans g2) r2⟩
/-- a list display that never changes -/
theorem EV.lst {es : List Expr} {ds : List D} (h : EA C es E M (ds.map .dat) M') (hz : ds.length ≤ 100000) : EV C (.List es pos) E M (.dat (.lst ds)) M' :=
  EV.mk (fun X hX => pe_lst (ua hX es)) fun I H adr σ Q s q => h I H adr σ _ s fun vs I1 H1 adr1 s1 g1 v1 =>
    ⟨by rw [← v1.to.length]; exact sz_of hz, fun p hp => let ⟨s2, g2, r2⟩ := s1.lst hp v1.to; q _ _ _ _ s2 (g1.trans g2) r2⟩
/-- .. that is a cell -/
theorem EV.cel {es : List Expr} (h : EA C es E M os M') (hz : os.length ≤ 100000) : EV C (.List es pos) E M (.adr M'.length) (M' ++ [some os]) :=
  EV.mk (fun X hX => pe_lst (ua hX es)) fun I H adr σ Q s q => h I H adr σ _ s fun vs I1 H1 adr1 s1 g1 v1 =>
    ⟨by rw [← v1.length]; exact sz_of hz, fun p hp => let ⟨s2, g2, r2⟩ := s1.cel hp v1; q _ _ _ _ s2 (g1.trans g2) ⟨p, r2, rfl⟩⟩

/-! ### statements -/
theorem SB.nil : SB C [] E M (.nx E M) := SB.mk (fun _ _ => pss_nil) fun I H adr σ D s q => q I H adr σ s Grow.refl
theorem SB.cons {st : Stmt} {sts : List Stmt} {E1 : List O} (h : ST C st E M (.nx E1 M1)) (hr : SB C sts E1 M1 r) : SB C (st :: sts) E M r :=
  SB.mk (fun X hX => pss_cons (us hX st) (ub hX sts)) fun I H adr σ D s q =>
    h I H adr σ { D with nx := UB C sts D } s fun I1 H1 adr1 σ1 s1 g1 => hr I1 H1 adr1 σ1 D s1 (q.mono g1)
theorem pss_dead {X : Cx} {sts : List Stmt} : PSs X sts (fun _ _ _ => False) := ⟨fun _ _ _ _ _ _ h => h.elim⟩
theorem ps_dead {X : Cx} {st : Stmt} : PS X st (fun _ _ _ => False) := ⟨fun _ _ _ _ _ _ h => h.elim⟩
/-- a statement behind which nothing is done -/
def Out.ends : Out → Bool
  | .nx _ _ => false
  | _ => true
theorem SB.stop {st : Stmt} {sts : List Stmt} (h : ST C st E M r) (he : r.ends = true := by rfl) : SB C (st :: sts) E M r :=
  SB.mk (fun X hX => pss_cons (us hX st) pss_dead) fun I H adr σ D s q => h I H adr σ { D with nx := fun _ _ => False } s (by
    cases r with
    | nx _ _ => cases he
    | rt _ _ => exact q
    | bk _ _ => exact q
    | ct _ _ => exact q)
theorem SB.one {st : Stmt} (h : ST C st E M r) : SB C [st] E M r := SB.mk (fun X hX => pss_one (us hX st)) h
theorem ST.pass : ST C (.Pass pos) E M (.nx E M) := ST.mk (fun _ _ => ps_pass) fun I H adr σ D s q => q I H adr σ s Grow.refl
theorem ST.brk : ST C (.Break pos) E M (.bk E M) := ST.mk (fun _ _ => ps_break) fun I H adr σ D s q => q I H adr σ s Grow.refl
theorem ST.cont : ST C (.Continue pos) E M (.ct E M) := ST.mk (fun _ _ => ps_continue) fun I H adr σ D s q => q I H adr σ s Grow.refl
theorem ST.ret (h : EV C e E M o M') : ST C (.Return (some e) pos) E M (.rt o M') :=
  ST.mk (fun X hX => ps_ret (ue hX e)) fun I H adr σ D s q => h I H adr σ _ s fun v I1 H1 adr1 s1 g1 v1 => q v I1 H1 adr1 ⟨s1.ex, s1.sto, rfl, fun i o ov h _ => by simp at h⟩ g1 v1
theorem ST.retN : ST C (.Return none pos) E M (.rt (.dat .non) M) :=
  ST.mk (fun X hX => ps_retN) fun I H adr σ D s q => q .non I H adr ⟨s.ex, s.sto, rfl, fun i o ov h _ => by simp at h⟩ Grow.refl .non
theorem ST.ite {k : Bool} {ys ns : List Stmt} (hc : ET C c E M k M1) (h1 : k = true → SB C ys E M1 r) (h2 : k = false → SB C ns E M1 r) : ST C (.If c ys ns pos) E M r := by
  cases k with
  | true =>
    refine ST.mk (fun X hX => ps_if (ut hX c) (ub hX ys) pss_dead) fun I H adr σ D s q => ?_
    refine hc I H adr σ _ s fun I1 H1 adr1 s1 g1 => ?_
    show UB C ys D σ H1
    exact h1 rfl I1 H1 adr1 σ D s1 (q.mono g1)
  | false =>
    refine ST.mk (fun X hX => ps_if (ut hX c) pss_dead (ub hX ns)) fun I H adr σ D s q => ?_
    refine hc I H adr σ _ s fun I1 H1 adr1 s1 g1 => ?_
    show UB C ns D σ H1
    exact h2 rfl I1 H1 adr1 σ D s1 (q.mono g1)
theorem ST.yes {ys ns : List Stmt} (hc : ET C c E M true M1) (h1 : SB C ys E M1 r) : ST C (.If c ys ns pos) E M r := ST.ite hc (fun _ => h1) (fun z => nomatch z)
theorem ST.no {ys ns : List Stmt} (hc : ET C c E M false M1) (h1 : SB C ns E M1 r) : ST C (.If c ys ns pos) E M r := ST.ite hc (fun z => nomatch z) (fun _ => h1)
theorem ST.exp (h : EV C e E M o M') (hs : ∀ env, swapsWith e none pos.line env = pure false := by intro _; rfl) : ST C (.Expr e pos) E M (.nx E M') :=
  ST.mk (fun X hX => ps_expr (ue hX e) (hs X.env)) fun I H adr σ D s q => h I H adr σ _ s fun v I1 H1 adr1 s1 g1 v1 => q I1 H1 adr1 σ s1 g1
theorem ST.set (i : Nat) {x : Str} {p' : Pos} (h : EV C e E M o M') (nd : C.N.Nodup) (hi : C.N[i]? = some x := by rfl) (hx : Loc C.sc x := by first | exact Or.inl rfl | exact Or.inr rfl)
    (hs : ∀ env, swapsWith e (some (.Name x p')) pos.line env = pure false := by intro _; rfl) (hf : C.fn x = true ∨ C.sc.names.lookup x = some .local := by first | exact .inl rfl | exact .inr rfl) : ST C (.Assign [.Name x p'] e pos) E M (.nx (E.set i o) M') :=
  ST.mk (fun X hX => ps_set (by rw [hX.N]; exact nd) (by rw [hX.N]; exact hi) (by rw [hX.sc]; exact hx) (ue hX e) (hs X.env) (hf.elim (fun z => .inl (hX.fn x z)) (fun z => .inr (by rw [hX.sc]; exact z))))
    fun I H adr σ D s q => h I H adr σ _ s fun v I1 H1 adr1 s1 g1 v1 => q I1 H1 adr1 _ (s1.set v1) g1

end
end Ab
/-! Ab: defs and their calls. -/
namespace Ab
open PySem PySem.Spec PyProof.Rows L2

abbrev Rel := List O → Mem → O → Mem → Prop
def spR (R : Rel) : Sp := fun vs H Q _ => ∃ (I : Hp) (adr : List Addr) (os : List O) (M : Mem) (o : O) (M' : Mem), R os M o M' ∧ Ex I H ∧ Sto I H adr M ∧ Vs I adr os vs ∧
  ∀ v I' H' adr', Ex I' H' → Sto I' H' adr' M' → Grow I H adr I' H' adr' → Vo I' adr' o v → Q v H'
/-- the def named x keeps R -/
def FN (g : Pg) (x : Str) (k : Nat) (R : Rel) : Prop := ∃ (f : Addr) (fd : FuncData) (ps : List Str), FnOk g.P g.w g.K g.mg g.base CX0 k f fd ps (spR R) ∧ g.mg x = some (.ref f) ∧ PySem.W.keepIn g.K (.ref f) = true ∧ Binds g.K fd ps []
theorem FN.mono {g : Pg} {x : Str} {j k : Nat} {R : Rel} (F : FN g x j R) (h : j ≤ k) : FN g x k R := by
  obtain ⟨f, fd, ps, a, b⟩ := F
  exact ⟨f, fd, ps, a.mono h, b⟩
theorem FN.imp {g : Pg} {x : Str} {k : Nat} {R R' : Rel} (F : FN g x k R) (h : ∀ os M o M', R' os M o M' → R os M o M') : FN g x k R' := by
  obtain ⟨f, fd, ps, a, b⟩ := F
  refine ⟨f, fd, ps, a.imp fun vs H Q E z => ?_, b⟩
  obtain ⟨I, adr, os, M, o, M', r, q⟩ := z
  exact ⟨I, adr, os, M, o, M', h _ _ _ _ r, q⟩
abbrev mkC (g : Pg) (N : List Str) (st : Stmt) (k : Nat) : Cc := ⟨g, N, defScope st, fun _ => true, k⟩
def pad (N : List Str) (os : List O) : List O := os ++ List.replicate (N.length - os.length) .no
/-- what a def's text is, where it stands -/
structure TxtF (g : Pg) (x : Str) (st : Stmt) : Prop where
  fn : ∃ (f : Addr) (fd : FuncData), Fun g.K x x st f fd ∧ g.mg x = some (.ref f)
theorem FN.mk {g : Pg} {x : Str} {st : Stmt} {N ps : List Str} {k : Nat} {R : Rel} (T : TxtF g x st) (S : FnScope N ps (defScope st))
    (hb : ∀ (kV doc pm : Value) (an : Option Addr) (cdv ct : Value) (us : List Value), us.length = ps.length → bindArgs (PySem.W.fnOf x x (defArgs st) (defBody st) (defScope st) .none kV doc pm an cdv ct) ⟨us, []⟩ = pure (ps.zip us))
    (hl : ∀ os M o M', R os M o M' → os.length = ps.length) (body : ∀ os M o M', R os M o M' → SB (mkC g N st k) (defBody st) (pad N os) M (.rt o M')) : FN g x (k + 1) R := by
  obtain ⟨f, fd, F, hm⟩ := T.fn
  refine ⟨f, fd, ps, F.ok (N := N) S (fun vs H Q E h => ?_) (fun cdv A outer s H vs Q E hr h => ?_), hm, F.kp, F.binds hb⟩
  · obtain ⟨I, adr, os, M, o, M', r, _, _, v, _⟩ := h
    rw [← v.length]
    exact hl _ _ _ _ r
  · obtain ⟨I, adr, os, M, o, M', r, ex, sto, v, q⟩ := h
    refine ⟨UB (mkC g N st k) (defBody st), ub ⟨rfl, rfl, rfl, rfl, rfl, rfl, rfl, rfl, hr, rfl, fun _ _ => rfl⟩ _, ?_⟩
    refine body os M o M' r I H adr (L2.start N vs) _ ⟨ex, sto, ?_, fun i p ov h1 h2 => ?_⟩ fun w I' H' adr' s' g' v' => q w I' H' adr' s'.ex s'.sto g' v'
    · unfold pad L2.start
      rw [List.length_append, List.length_append, List.length_map, List.length_replicate, List.length_replicate, v.length]
    · unfold pad at h1
      unfold L2.start at h2
      by_cases hi : i < os.length
      · rw [List.getElem?_append_left hi] at h1
        obtain ⟨w, e1, e2⟩ := v.get h1
        rw [List.getElem?_append_left (by rw [List.length_map, ← v.length]; exact hi), List.getElem?_map, e1] at h2
        cases h2
        exact e2
      · rw [List.getElem?_append_right (Nat.le_of_not_lt hi)] at h1
        have hp : p = .no := List.eq_of_mem_replicate (List.mem_of_getElem? h1)
        subst hp
        cases ov with
        | none => rfl
        | some w => exact True.intro

/-! ### calls -/
def O.ren (ρ : Nat → Nat) : O → O
  | .no => .no
  | .dat d => .dat d
  | .adr k => .adr (ρ k)
  | .scr a u => .scr a u
theorem Vo.unren {I : Hp} {adr adr0 : List Addr} {ρ : Nat → Nat} (h : ∀ (k : Nat) (a : Addr), adr[ρ k]? = some a → adr0[k]? = some a) : ∀ {o : O} {v : V}, Vo I adr (o.ren ρ) v → Vo I adr0 o v
  | .no, _, _ => True.intro
  | .dat _, _, q => q
  | .adr _, _, q => by
    obtain ⟨a, h1, h2⟩ := q
    exact ⟨a, h _ a h1, h2⟩
  | .scr _ _, _, q => q
theorem Vo.doren {I : Hp} {adr adr0 : List Addr} {ρ : Nat → Nat} (h : ∀ (k : Nat) (a : Addr), adr0[k]? = some a → adr[ρ k]? = some a) : ∀ {o : O} {v : V}, Vo I adr0 o v → Vo I adr (o.ren ρ) v
  | .no, _, _ => True.intro
  | .dat _, _, q => q
  | .adr _, _, q => by
    obtain ⟨a, h1, h2⟩ := q
    exact ⟨a, h _ a h1, h2⟩
  | .scr _ _, _, q => q
theorem Vs.unren {I : Hp} {adr adr0 : List Addr} {ρ : Nat → Nat} (h : ∀ (k : Nat) (a : Addr), adr[ρ k]? = some a → adr0[k]? = some a) : ∀ {os : List O} {vs : List V}, Vs I adr (os.map (·.ren ρ)) vs → Vs I adr0 os vs
  | [], _, .nil => .nil
  | _ :: _, _, .cons q r => .cons (q.unren h) (Vs.unren h r)
theorem Vs.doren {I : Hp} {adr adr0 : List Addr} {ρ : Nat → Nat} (h : ∀ (k : Nat) (a : Addr), adr0[k]? = some a → adr[ρ k]? = some a) : ∀ {os : List O} {vs : List V}, Vs I adr0 os vs → Vs I adr (os.map (·.ren ρ)) vs
  | _, _, .nil => .nil
  | _, _, .cons q r => .cons (q.doren h) (Vs.doren h r)

/-- where the callee's cells lie: the lent ones at ι, new ones behind the caller's -/
def rho (ι : List Nat) (n : Nat) (k : Nat) : Nat := match ι[k]? with
  | some j => j
  | none => n + (k - ι.length)
/-- the caller's cells behind a call -/
structure Mix (ι : List Nat) (M1 M0 M0' M2 : Mem) : Prop where
  low : ι.length = M0.length
  nd : ι.Nodup
  len : M2.length = M1.length + (M0'.length - ι.length)
  lent : ∀ (i k : Nat), ι[i]? = some k → M1[k]? = (M0[i]?).map fun c => c.map fun os => os.map (·.ren (rho ι M1.length))
  back : ∀ (k : Nat) (os : List O), M2[k]? = some (some os) → (k ∉ ι ∧ M1[k]? = some (some os)) ∨ ∃ (i : Nat) (ps : List O), rho ι M1.length i = k ∧ (i < ι.length ∨ ι.length ≤ i) ∧ M0'[i]? = some (some ps) ∧ os = ps.map (·.ren (rho ι M1.length))

theorem ev_call {R : Rel} {E : List O} {M M1 M2 M0 M0' : Mem} {os os0 : List O} {o0 : O} {ta : TA} {E' : XK} {ι : List Nat} (ha : Ea ta E M os M1) (hR : R os0 M0 o0 M0') (ho : os = os0.map (·.ren (rho ι M1.length))) (mx : Mix ι M1 M0 M0' M2) :
    Ev (tCall (spR R) [] E' ta) E M (o0.ren (rho ι M1.length)) M2 := fun I H adr σ Q s q => ha I H adr σ _ s fun vs I1 H1 adr1 s1 g1 v1 => by
  subst ho
  have hin : ∀ (i k : Nat), ι[i]? = some k → k < M1.length := fun i k h => by
    have h2 := mx.lent i k h
    have hi : i < M0.length := by
      rw [← mx.low]
      exact (List.getElem?_eq_some_iff.mp h).1
    rw [List.getElem?_eq_getElem hi] at h2
    exact (List.getElem?_eq_some_iff.mp h2).1
  have hlen1 := s1.sto.len
  -- the callee's addresses
  let adr0 : List Addr := ι.map fun k => adr1.getD k 0
  have a0len : adr0.length = ι.length := List.length_map _
  have a0 : ∀ (i : Nat) (a : Addr), adr0[i]? = some a → ∃ k, ι[i]? = some k ∧ adr1[k]? = some a := fun i a h => by
    rw [List.getElem?_map] at h
    cases hk : ι[i]? with
    | none => rw [hk] at h; cases h
    | some k =>
      rw [hk] at h
      have hlt : k < adr1.length := by rw [hlen1]; exact hin i k hk
      refine ⟨k, rfl, ?_⟩
      rw [List.getElem?_eq_getElem hlt]
      have : adr1.getD k 0 = a := Option.some.inj h
      rw [List.getD_eq_getElem?_getD, List.getElem?_eq_getElem hlt] at this
      exact congrArg some this
  have a0' : ∀ (i k : Nat) (a : Addr), ι[i]? = some k → adr1[k]? = some a → adr0[i]? = some a := fun i k a h1 h2 => by
    rw [List.getElem?_map, h1]
    show some (adr1.getD k 0) = some a
    rw [List.getD_eq_getElem?_getD, h2]
    rfl
  have un0 : ∀ (k : Nat) (a : Addr), adr1[rho ι M1.length k]? = some a → adr0[k]? = some a := fun k a h => by
    unfold rho at h
    cases hk : ι[k]? with
    | some j =>
      rw [hk] at h
      exact a0' k j a hk h
    | none =>
      rw [hk] at h
      have := (List.getElem?_eq_some_iff.mp h).1
      simp only at this
      omega
  have sto0 : Sto I1 H1 adr0 M0 := by
    refine ⟨by rw [a0len]; exact mx.low, ?_, fun i a ps h1 h2 => ?_, fun i a h => ?_⟩
    · refine List.pairwise_map.mpr (List.Pairwise.imp_of_mem (fun {a b} ha hb hab e => ?_) mx.nd)
      obtain ⟨i, hi⟩ := List.getElem?_of_mem ha
      obtain ⟨j, hj⟩ := List.getElem?_of_mem hb
      have l1 : a < adr1.length := by rw [hlen1]; exact hin i a hi
      have l2 : b < adr1.length := by rw [hlen1]; exact hin j b hj
      have e1 : adr1[a]? = adr1[b]? := by
        rw [List.getD_eq_getElem?_getD, List.getD_eq_getElem?_getD, List.getElem?_eq_getElem l1, List.getElem?_eq_getElem l2] at e
        rw [List.getElem?_eq_getElem l1, List.getElem?_eq_getElem l2]
        exact congrArg some e
      exact hab ((List.getElem?_inj l1 s1.sto.nd).mp e1)
    · obtain ⟨k, hk, ha1⟩ := a0 i a h1
      have hm := mx.lent i k hk
      rw [h2] at hm
      obtain ⟨c1, xs, c2, c3⟩ := s1.sto.cell k a _ ha1 hm
      exact ⟨c1, xs, c2, c3.unren un0⟩
    · obtain ⟨k, hk, ha1⟩ := a0 i a h
      exact s1.sto.dom k a ha1
  show spR R (vs ++ []) H1 Q E'
  rw [List.append_nil]
  refine ⟨I1, adr0, os0, M0, o0, M0', hR, s1.ex, sto0, v1.unren un0, fun z I2 H2 adr0' ex2 sto2 g2 v2 => ?_⟩
  obtain ⟨nw, rfl, fr⟩ := g2.new
  have nwlen : nw.length = M0'.length - ι.length := by
    have := sto2.len
    rw [List.length_append, a0len] at this
    omega
  have m0len : ι.length ≤ M0'.length := by
    have := sto2.len
    rw [List.length_append, a0len] at this
    omega
  have do2 : ∀ (k : Nat) (a : Addr), (adr0 ++ nw)[k]? = some a → (adr1 ++ nw)[rho ι M1.length k]? = some a := fun k a h => by
    unfold rho
    by_cases hk : k < adr0.length
    · rw [List.getElem?_append_left hk] at h
      obtain ⟨j, p1, p2⟩ := a0 k a h
      rw [p1]
      show (adr1 ++ nw)[j]? = some a
      rw [List.getElem?_append_left (List.getElem?_eq_some_iff.mp p2).1]
      exact p2
    · rw [List.getElem?_append_right (Nat.le_of_not_lt hk)] at h
      rw [show ι[k]? = none from List.getElem?_eq_none (by rw [← a0len]; exact Nat.le_of_not_lt hk)]
      show (adr1 ++ nw)[M1.length + (k - ι.length)]? = some a
      rw [List.getElem?_append_right (by omega), ← a0len, hlen1]
      rw [show M1.length + (k - adr0.length) - M1.length = k - adr0.length by omega]
      exact h
  have nin0 : ∀ p, p ∉ adr1 → p ∉ adr0 := fun p h z => by
    obtain ⟨i, hi⟩ := List.getElem?_of_mem z
    obtain ⟨k, _, hk⟩ := a0 i p hi
    exact h (List.mem_of_getElem? hk)
  have g3 : Grow I1 H1 adr1 I2 H2 (adr1 ++ nw) := ⟨g2.ex, ⟨nw, rfl, fr⟩, fun p u h hp => g2.keep p u h (nin0 p hp), g2.dom, fun p u h h2 hp => g2.out p u h h2 (nin0 p hp)⟩
  have notin : ∀ (k : Nat) (a : Addr), k ∉ ι → adr1[k]? = some a → a ∉ adr0 := fun k a hk h z => by
    obtain ⟨i, hi⟩ := List.getElem?_of_mem z
    obtain ⟨j, h1, h2⟩ := a0 i a hi
    have : j = k := (List.getElem?_inj (List.getElem?_eq_some_iff.mp h2).1 s1.sto.nd).mp (h2.trans h.symm)
    subst this
    exact hk (List.mem_of_getElem? h1)
  have sto3 : Sto I2 H2 (adr1 ++ nw) M2 := by
    refine ⟨by rw [List.length_append, mx.len, hlen1, nwlen], ?_, fun k a ps h1 h2 => ?_, fun k a h => ?_⟩
    · rw [List.nodup_append]
      refine ⟨s1.sto.nd, (List.nodup_append.mp sto2.nd).2.1, fun a ha b hb e => ?_⟩
      subst e
      obtain ⟨k, hk⟩ := List.getElem?_of_mem ha
      obtain ⟨u, hu⟩ := s1.sto.dom k a hk
      rw [fr a hb] at hu
      cases hu
    · rcases mx.back k ps h2 with ⟨hk, hm⟩ | ⟨i, ps', hi, _, hm, rfl⟩
      · have hlt : k < adr1.length := by
          rw [hlen1]
          exact (List.getElem?_eq_some_iff.mp hm).1
        rw [List.getElem?_append_left hlt] at h1
        obtain ⟨c1, xs, c2, c3⟩ := s1.sto.cell k a ps h1 hm
        have na := notin k a hk h1
        exact ⟨g2.out a _ c2 c1 na, xs, g2.keep a _ c2 na, (c3.ext g2.ex).more⟩
      · have hi2 : i < (adr0 ++ nw).length := by
          rw [sto2.len]
          exact (List.getElem?_eq_some_iff.mp hm).1
        have e1 : (adr0 ++ nw)[i]? = some (adr0 ++ nw)[i] := List.getElem?_eq_getElem hi2
        have e2 := do2 i _ e1
        rw [hi, h1] at e2
        have e3 : a = (adr0 ++ nw)[i] := Option.some.inj e2
        obtain ⟨c1, xs, c2, c3⟩ := sto2.cell i _ ps' e1 hm
        exact ⟨by rw [e3]; exact c1, xs, by rw [e3]; exact c2, c3.doren do2⟩
    · by_cases hk : k < adr1.length
      · rw [List.getElem?_append_left hk] at h
        obtain ⟨u, hu⟩ := s1.sto.dom k a h
        exact g2.dom a u hu
      · rw [List.getElem?_append_right (Nat.le_of_not_lt hk)] at h
        refine sto2.dom (ι.length + (k - adr1.length)) a ?_
        rw [List.getElem?_append_right (by rw [a0len]; omega), a0len]
        rw [show ι.length + (k - adr1.length) - ι.length = k - adr1.length by omega]
        exact h
  exact q z I2 H2 (adr1 ++ nw) (s1.mono g3 ex2 sto3) (g1.trans g3) (v2.doren do2)
end Ab
/-! Ab: operators, subscripts, built-ins. -/
namespace Ab
open PySem PySem.Spec PyProof.Rows L2

/-- which built-in names the program's top leaves alone -/
def Bt (g : Pg) (x : Str) : Prop := g.mg x = none

def BS (C : Cc) (op : Operator) (o1 o2 : O) (M : Mem) (o : O) (M' : Mem) : Prop := ∃ r, (∀ X, CxIs C X → OpR X (binaryOp op) r) ∧ RO r o1 o2 M o M'
def CS (C : Cc) (op : CmpOp) (o1 o2 : O) (M : Mem) (o : O) (M' : Mem) : Prop := ∃ r, (∀ X, CxIs C X → OpR X (compareOp op) r) ∧ RO r o1 o2 M o M'
section
variable {C : Cc} {E : List O} {M M1 M2 M3 M' : Mem} {o o1 o2 o3 : O} {os : List O} {e a b c : Expr} {pos pos' p : Pos} {d d1 d2 : D} {i j : Int} {op : Operator} {cop cop' : CmpOp} {k k' : Bool}
theorem EV.bin (ha : EV C a E M o1 M1) (hb : EV C b E M1 o2 M2) (h : BS C op o1 o2 M2 o M') : EV C (.BinOp a op b pos) E M o M' := let ⟨_, h1, h2⟩ := h; EV.op ha hb h1 h2
theorem EV.cm (ha : EV C a E M o1 M1) (hb : EV C b E M1 o2 M2) (h : CS C cop o1 o2 M2 o M') (hm : behindInMarks cop b = false := by first | exact nomark _ | with_unfolding_all rfl) : EV C (.Compare a [cop] [b] pos) E M o M' := let ⟨_, h1, h2⟩ := h; EV.cmp ha hb h1 h2 hm
theorem ET.cm (ha : EV C a E M o1 M1) (hb : EV C b E M1 o2 M2) (h : CS C cop o1 o2 M2 (.dat (.bl k)) M') (hm : behindInMarks cop b = false := by first | exact nomark _ | with_unfolding_all rfl) : ET C (.Compare a [cop] [b] pos) E M k M' := let ⟨_, h1, h2⟩ := h; ET.cmp ha hb h1 h2 hm
/-- a op b op' c -/
theorem EV.chain {M4 : Mem} (ha : EV C a E M o1 M1) (hb : EV C b E M1 o2 M2) (h : CS C cop o1 o2 M2 (.dat (.bl k)) M2) (hc : k = true → EV C c E M2 o3 M3) (h' : k = true → CS C cop' o2 o3 M3 (.dat (.bl k')) M3) (h0 : k = false → M3 = M2)
    (hm : lastMarks [cop, cop'] [b, c] = false := by with_unfolding_all rfl) : EV C (.Compare a [cop, cop'] [b, c] pos) E M (.dat (.bl (k && k'))) M3 := by
  obtain ⟨r, r1, r2⟩ := h
  cases k with
  | true =>
    obtain ⟨r', r1', r2'⟩ := h' rfl
    refine EV.mk (fun X hX => pe_chain (r1 X hX) (r1' X hX) (ue hX a) (ue hX b) (ue hX c) hm) fun I H adr σ Q s q => ?_
    refine ha I H adr σ _ s fun v I1 H1 adr1 s1 g1 v1 => hb I1 H1 adr1 σ _ s1 fun w I2 H2 adr2 s2 g2 w2 => ?_
    refine r2 I2 H2 adr2 σ E v w _ s2 (v1.mono g2) w2 fun z I3 H3 adr3 s3 g3 z3 => ?_
    cases (show Rep I3 (.bl true) z from z3)
    refine ⟨true, rfl, ?_⟩
    show UE C c σ H3 _
    exact hc rfl I3 H3 adr3 σ _ s3 fun w' I4 H4 adr4 s4 g4 w4 => r2' I4 H4 adr4 σ E w w' Q s4 ((w2.mono g3).mono g4) w4 fun y I5 H5 adr5 s5 g5 y5 => q y I5 H5 adr5 s5 ((((g1.trans g2).trans g3).trans g4).trans g5) y5
  | false =>
    have e := h0 rfl
    subst e
    refine EV.mk (fun X hX => pe_chain (r' := fun _ _ _ _ => False) (r1 X hX) (fun _ _ _ _ _ _ _ _ _ _ _ _ h => h.elim) (ue hX a) (ue hX b) (ue hX c) hm) fun I H adr σ Q s q => ?_
    refine ha I H adr σ _ s fun v I1 H1 adr1 s1 g1 v1 => hb I1 H1 adr1 σ _ s1 fun w I2 H2 adr2 s2 g2 w2 => ?_
    refine r2 I2 H2 adr2 σ E v w _ s2 (v1.mono g2) w2 fun z I3 H3 adr3 s3 g3 z3 => ?_
    cases (show Rep I3 (.bl false) z from z3)
    refine ⟨false, rfl, ?_⟩
    show Q (.bl false) H3
    exact q _ I3 H3 adr3 s3 ((g1.trans g2).trans g3) (.bl false)
theorem ET.chain (ha : EV C a E M o1 M1) (hb : EV C b E M1 o2 M2) (h : CS C cop o1 o2 M2 (.dat (.bl k)) M2) (hc : k = true → EV C c E M2 o3 M3) (h' : k = true → CS C cop' o2 o3 M3 (.dat (.bl k')) M3) (h0 : k = false → M3 = M2)
    (hm : lastMarks [cop, cop'] [b, c] = false := by with_unfolding_all rfl) : ET C (.Compare a [cop, cop'] [b, c] pos) E M (k && k') M3 := by
  obtain ⟨r, r1, r2⟩ := h
  cases k with
  | true =>
    obtain ⟨r', r1', r2'⟩ := h' rfl
    refine ET.mk (fun X hX => pt_chain (r1 X hX) (r1' X hX) (ue hX a) (ue hX b) (ue hX c) hm) fun I H adr σ Q s q => ?_
    refine ha I H adr σ _ s fun v I1 H1 adr1 s1 g1 v1 => hb I1 H1 adr1 σ _ s1 fun w I2 H2 adr2 s2 g2 w2 => ?_
    refine r2 I2 H2 adr2 σ E v w _ s2 (v1.mono g2) w2 fun z I3 H3 adr3 s3 g3 z3 => ?_
    cases (show Rep I3 (.bl true) z from z3)
    refine ⟨true, rfl, ?_⟩
    show UE C c σ H3 _
    exact hc rfl I3 H3 adr3 σ _ s3 fun w' I4 H4 adr4 s4 g4 w4 => r2' I4 H4 adr4 σ E w w' _ s4 ((w2.mono g3).mono g4) w4 fun y I5 H5 adr5 s5 g5 y5 => by
      cases (show Rep I5 (.bl k') y from y5)
      exact ⟨k', rfl, q I5 H5 adr5 s5 ((((g1.trans g2).trans g3).trans g4).trans g5)⟩
  | false =>
    have e := h0 rfl
    subst e
    refine ET.mk (fun X hX => pt_chain (r' := fun _ _ _ _ => False) (r1 X hX) (fun _ _ _ _ _ _ _ _ _ _ _ _ h => h.elim) (ue hX a) (ue hX b) (ue hX c) hm) fun I H adr σ Q s q => ?_
    refine ha I H adr σ _ s fun v I1 H1 adr1 s1 g1 v1 => hb I1 H1 adr1 σ _ s1 fun w I2 H2 adr2 s2 g2 w2 => ?_
    refine r2 I2 H2 adr2 σ E v w _ s2 (v1.mono g2) w2 fun z I3 H3 adr3 s3 g3 z3 => ?_
    cases (show Rep I3 (.bl false) z from z3)
    refine ⟨false, rfl, ?_⟩
    show ∃ k, V.bl false = V.bl k ∧ Q k H3
    exact ⟨false, rfl, q I3 H3 adr3 s3 ((g1.trans g2).trans g3)⟩

/-! #### ints -/
theorem ro_I0 {g : Int → Int → V} (h : ∀ I, Rep I d (g i j)) : RO (rI0 g) (.dat (.int i)) (.dat (.int j)) M (.dat d) M := fun I H adr σ E v w Q s hv hw q => by
  cases (show Rep I (.int i) v from hv)
  cases (show Rep I (.int j) w from hw)
  exact ⟨i, j, rfl, rfl, q _ I H adr s Grow.refl (h I)⟩
theorem ro_I {g : Int → Int → V} {Cd : Int → Int → Prop} (hc : Cd i j) (h : ∀ I, Rep I d (g i j)) : RO (rI Cd g) (.dat (.int i)) (.dat (.int j)) M (.dat d) M := fun I H adr σ E v w Q s hv hw q => by
  cases (show Rep I (.int i) v from hv)
  cases (show Rep I (.int j) w from hw)
  exact ⟨i, j, rfl, rfl, hc, q _ I H adr s Grow.refl (h I)⟩
theorem op_mulX {X : Cx} : OpR X (binaryOp .Mult) (rI IntMulOk fun i j => .int (i * j)) := opI fun _ _ _ _ _ _ _ hc q => mul_int q hc
theorem BS.addI : BS C .Add (.dat (.int i)) (.dat (.int j)) M (.dat (.int (i + j))) M := ⟨_, fun X _ => op_add, ro_I0 fun _ => .int _⟩
theorem BS.subI : BS C .Sub (.dat (.int i)) (.dat (.int j)) M (.dat (.int (i - j))) M := ⟨_, fun X _ => op_sub, ro_I0 fun _ => .int _⟩
theorem BS.mulI (h : IntMulOk i j) : BS C .Mult (.dat (.int i)) (.dat (.int j)) M (.dat (.int (i * j))) M := ⟨_, fun X _ => op_mulX, ro_I h fun _ => .int _⟩
theorem BS.modI (h : 0 < j) : BS C .Mod (.dat (.int i)) (.dat (.int j)) M (.dat (.int (i % j))) M := ⟨_, fun X _ => op_mod, ro_I h fun _ => .int _⟩
theorem BS.divI (h : CDivW i j) : BS C .FloorDiv (.dat (.int i)) (.dat (.int j)) M (.dat (.int (i / j))) M := ⟨_, fun X _ => op_fdivW, ro_I h fun _ => .int _⟩
theorem BS.powI (h : CPow i j) : BS C .Pow (.dat (.int i)) (.dat (.int j)) M (.dat (.int (i ^ j.toNat))) M := ⟨_, fun X _ => op_pow, ro_I h fun _ => .int _⟩
theorem CS.ltI : CS C .Lt (.dat (.int i)) (.dat (.int j)) M (.dat (.bl (decide (i < j)))) M := ⟨_, fun X _ => op_lt, ro_I0 fun _ => .bl _⟩
theorem CS.leI : CS C .LtE (.dat (.int i)) (.dat (.int j)) M (.dat (.bl (decide (i ≤ j)))) M := ⟨_, fun X _ => op_le, ro_I0 fun _ => .bl _⟩
theorem CS.gtI : CS C .Gt (.dat (.int i)) (.dat (.int j)) M (.dat (.bl (decide (j < i)))) M := ⟨_, fun X _ => op_gt, ro_I0 fun _ => .bl _⟩
theorem CS.geI : CS C .GtE (.dat (.int i)) (.dat (.int j)) M (.dat (.bl (decide (j ≤ i)))) M := ⟨_, fun X _ => op_ge, ro_I0 fun _ => .bl _⟩
theorem EV.neg (h : EV C a E M (.dat (.int i)) M') : EV C (.UnaryOp .USub a pos) E M (.dat (.int (-i))) M' :=
  EV.mk (fun X hX => pe_un un_neg (ue hX a)) fun I H adr σ Q s q => h I H adr σ _ s fun v I1 H1 adr1 s1 g1 v1 => by
    cases (show Rep I1 (.int i) v from v1)
    exact ⟨i, rfl, q _ I1 H1 adr1 s1 g1 (.int _)⟩
/-! #### equality of scalars -/
theorem ro_eq {x y : V} {kk : Bool} (hx : ∀ I v, Rep I d1 v → v = x) (hy : ∀ I v, Rep I d2 v → v = y) (hs : scal x y = true) (hk : decide (x = y) = kk) : RO rEq (.dat d1) (.dat d2) M (.dat (.bl kk)) M := fun I H adr σ E v w Q s hv hw q => by
  cases hx I v hv
  cases hy I w hw
  exact ⟨hs, q _ I H adr s Grow.refl (by rw [hk]; exact .bl _)⟩
theorem ro_ne {x y : V} {kk : Bool} (hx : ∀ I v, Rep I d1 v → v = x) (hy : ∀ I v, Rep I d2 v → v = y) (hs : scal x y = true) (hk : (!decide (x = y)) = kk) : RO rNe (.dat d1) (.dat d2) M (.dat (.bl kk)) M := fun I H adr σ E v w Q s hv hw q => by
  cases hx I v hv
  cases hy I w hw
  exact ⟨hs, q _ I H adr s Grow.refl (by rw [hk]; exact .bl _)⟩
theorem rep_int {I : Hp} {v : V} (h : Rep I (.int i) v) : v = .int i := by cases h; rfl
theorem rep_bl {I : Hp} {v : V} (h : Rep I (.bl k) v) : v = .bl k := by cases h; rfl
theorem rep_str {I : Hp} {v : V} {x : Str} (h : Rep I (.str x) v) : v = .str x := by cases h; rfl
theorem rep_non {I : Hp} {v : V} (h : Rep I .non v) : v = .non := by cases h; rfl
theorem dec_i : decide (V.int i = V.int j) = decide (i = j) := by
  rw [Bool.eq_iff_iff]
  simp
theorem dec_b : decide (V.bl k = V.bl k') = decide (k = k') := by
  rw [Bool.eq_iff_iff]
  simp
theorem dec_s {x y : Str} : decide (V.str x = V.str y) = decide (x = y) := by
  rw [Bool.eq_iff_iff]
  simp
theorem CS.eqI : CS C .Eq (.dat (.int i)) (.dat (.int j)) M (.dat (.bl (decide (i = j)))) M := ⟨_, fun X _ => op_eq, ro_eq (fun _ _ => rep_int) (fun _ _ => rep_int) rfl dec_i⟩
theorem CS.neI : CS C .NotEq (.dat (.int i)) (.dat (.int j)) M (.dat (.bl (!decide (i = j)))) M := ⟨_, fun X _ => op_ne, ro_ne (fun _ _ => rep_int) (fun _ _ => rep_int) rfl (by rw [dec_i])⟩
theorem CS.eqB : CS C .Eq (.dat (.bl k)) (.dat (.bl k')) M (.dat (.bl (decide (k = k')))) M := ⟨_, fun X _ => op_eq, ro_eq (fun _ _ => rep_bl) (fun _ _ => rep_bl) rfl dec_b⟩
theorem CS.eqS {x y : Str} : CS C .Eq (.dat (.str x)) (.dat (.str y)) M (.dat (.bl (decide (x = y)))) M := ⟨_, fun X _ => op_eq, ro_eq (fun _ _ => rep_str) (fun _ _ => rep_str) rfl dec_s⟩
theorem CS.neS {x y : Str} : CS C .NotEq (.dat (.str x)) (.dat (.str y)) M (.dat (.bl (!decide (x = y)))) M := ⟨_, fun X _ => op_ne, ro_ne (fun _ _ => rep_str) (fun _ _ => rep_str) rfl (by rw [dec_s])⟩
/-! #### is None -/
def D.isN : D → Bool
  | .non => true
  | _ => false
theorem rep_isN {I : Hp} {v : V} (h : Rep I d v) : decide (v = .non) = d.isN := by
  cases h <;> rfl
theorem EV.isN {jj : Nat} (h : EV C a E M (.dat d) M') : EV C (.Compare a [.Is] [.Constant .none jj p] pos) E M (.dat (.bl d.isN)) M' :=
  EV.mk (fun X hX => pe_cmp (pc_isN (ue hX a))) fun I H adr σ Q s q => h I H adr σ _ s fun v I1 H1 adr1 s1 g1 v1 => q _ I1 H1 adr1 s1 g1 (by rw [rep_isN v1]; exact .bl _)
theorem EV.notN {jj : Nat} (h : EV C a E M (.dat d) M') : EV C (.Compare a [.IsNot] [.Constant .none jj p] pos) E M (.dat (.bl (!d.isN))) M' :=
  EV.mk (fun X hX => pe_cmp (pc_notN (ue hX a))) fun I H adr σ Q s q => h I H adr σ _ s fun v I1 H1 adr1 s1 g1 v1 => q _ I1 H1 adr1 s1 g1 (by rw [rep_isN v1]; exact .bl _)
theorem ET.isN {jj : Nat} (h : EV C a E M (.dat d) M') : ET C (.Compare a [.Is] [.Constant .none jj p] pos) E M d.isN M' :=
  ET.mk (fun X hX => pt_cmp (pc_isN (ue hX a))) fun I H adr σ Q s q => h I H adr σ _ s fun v I1 H1 adr1 s1 g1 v1 => ⟨_, rfl, by rw [rep_isN v1]; exact q I1 H1 adr1 s1 g1⟩
theorem ET.notN {jj : Nat} (h : EV C a E M (.dat d) M') : ET C (.Compare a [.IsNot] [.Constant .none jj p] pos) E M (!d.isN) M' :=
  ET.mk (fun X hX => pt_cmp (pc_notN (ue hX a))) fun I H adr σ Q s q => h I H adr σ _ s fun v I1 H1 adr1 s1 g1 v1 => ⟨_, rfl, by rw [rep_isN v1]; exact q I1 H1 adr1 s1 g1⟩

/-! #### texts, tuples, lists joined -/
theorem BS.addS {x y : Str} (h : x.length + y.length ≤ sizeLine) : BS C .Add (.dat (.str x)) (.dat (.str y)) M (.dat (.str (x ++ y))) M := ⟨_, fun X _ => op_add_str, fun I H adr σ E v w Q s hv hw q => by
  cases rep_str hv
  cases rep_str hw
  exact ⟨x, y, rfl, rfl, h, q _ I H adr s Grow.refl (.str _)⟩⟩
theorem BS.addT {ds es : List D} (h : ds.length + es.length ≤ 100000) : BS C .Add (.dat (.tup ds)) (.dat (.tup es)) M (.dat (.tup (ds ++ es))) M := ⟨rCatA C.g.K, fun X hX => by
  have := op_catA (X := X)
  rw [hX.K] at this
  exact this, fun I H adr σ E v w Q s hv hw q => by
  cases (show Rep I (.tup ds) v from hv) with
  | @tup a xs _ ha hr =>
    cases (show Rep I (.tup es) w from hw) with
    | @tup b ys _ hb hs =>
      have l1 := hr.length
      have l2 := hs.length
      refine ⟨a, b, xs, ys, rfl, rfl, .inl (.inl (s.ex _ _ ha)), .inl (.inl (s.ex _ _ hb)), by rw [← l1, ← l2]; exact sz_of h, fun e => ?_, fun _ e => ?_, fun _ _ p hp => ?_⟩
      · subst e
        cases hr
        exact q _ I H adr s Grow.refl hw
      · subst e
        cases hs
        rw [List.append_nil] at q
        exact q _ I H adr s Grow.refl hv
      · obtain ⟨s2, g2, r2⟩ := s.tup hp (hr.append hs)
        exact q _ _ _ _ s2 g2 r2⟩
theorem BS.addL {ds es : List D} (h : ds.length + es.length ≤ 100000) : BS C .Add (.dat (.lst ds)) (.dat (.lst es)) M (.dat (.lst (ds ++ es))) M := ⟨rCat, fun X hX => op_cat, fun I H adr σ E v w Q s hv hw q => by
  cases (show Rep I (.lst ds) v from hv) with
  | @lst a xs _ ha hr =>
    cases (show Rep I (.lst es) w from hw) with
    | @lst b ys _ hb hs =>
      have l1 := hr.length
      have l2 := hs.length
      refine ⟨a, b, xs, ys, rfl, rfl, s.ex _ _ ha, s.ex _ _ hb, by rw [← l1, ← l2]; exact sz_of h, fun p hp => ?_⟩
      obtain ⟨s2, g2, r2⟩ := s.lst hp (hr.append hs)
      exact q _ _ _ _ s2 g2 r2⟩
theorem BS.mulT {ds : List D} (h0 : ds ≠ []) (h1 : 2 ≤ i) (h2 : i ≤ 1000) (h3 : ds.length ≤ 1000) : BS C .Mult (.dat (.tup ds)) (.dat (.int i)) M (.dat (.tup (List.replicate i.toNat ds).flatten)) M := ⟨rRepT C.g.K, fun X hX => by
  have := op_repT (X := X)
  rw [hX.K] at this
  exact this, fun I H adr σ E v w Q s hv hw q => by
  cases rep_int hw
  cases (show Rep I (.tup ds) v from hv) with
  | @tup a xs _ ha hr =>
    have l1 := hr.length
    refine ⟨a, i, xs, rfl, rfl, .inl (.inl (s.ex _ _ ha)), fun e => ?_, h1, h2, by rw [← l1]; exact h3, fun p hp => ?_⟩
    · subst e
      cases hr
      exact h0 rfl
    · obtain ⟨s2, g2, r2⟩ := s.tup hp (hr.rep i.toNat)
      exact q _ _ _ _ s2 g2 r2⟩
theorem BS.mulL {ds : List D} (h0 : 0 ≤ i) (h2 : i ≤ 1000) (h3 : ds.length ≤ 100) : BS C .Mult (.dat (.lst ds)) (.dat (.int i)) M (.dat (.lst (List.replicate i.toNat ds).flatten)) M := ⟨rRep, fun X hX => op_rep, fun I H adr σ E v w Q s hv hw q => by
  cases rep_int hw
  cases (show Rep I (.lst ds) v from hv) with
  | @lst a xs _ ha hr =>
    have l1 := hr.length
    refine ⟨a, i, xs, rfl, rfl, s.ex _ _ ha, by omega, by omega, ?_, fun p hp => ?_⟩
    · have : xs.length * i.toNat ≤ 100 * 1000 := Nat.mul_le_mul (by omega) (by omega)
      exact sz_of (by omega)
    · obtain ⟨s2, g2, r2⟩ := s.lst hp (hr.rep i.toNat)
      exact q _ _ _ _ s2 g2 r2⟩

/-! #### subscripts -/
def ixD : D → Int → Option D
  | .tup ds, i => atI ds i
  | .lst ds, i => atI ds i
  | _, _ => none
theorem reps_atI {I : Hp} {ds : List D} {xs : List V} (r : Reps I ds xs) {i : Int} {d : D} (h : atI ds i = some d) : ∃ v, atI xs i = some v ∧ Rep I d v := by
  unfold atI at h ⊢
  rw [← r.length]
  cases q : ixN ds.length i with
  | none => rw [q] at h; cases h
  | some j =>
    rw [q] at h
    exact r.get h
theorem vs_atI {I : Hp} {adr : List Addr} {ps : List O} {xs : List V} (r : Vs I adr ps xs) {i : Int} {o : O} (h : atI ps i = some o) : ∃ v, atI xs i = some v ∧ Vo I adr o v := by
  unfold atI at h ⊢
  rw [← r.length]
  cases q : ixN ps.length i with
  | none => rw [q] at h; cases h
  | some j =>
    rw [q] at h
    exact r.get h
theorem EV.ix (ha : EV C a E M (.dat d1) M1) (hb : EV C b E M1 (.dat (.int i)) M') (h : ixD d1 i = some d) (hs : PlainIx b := by exact fun _ _ => rfl) : EV C (.Subscript a b pos) E M (.dat d) M' :=
  EV.mk (t := tOp (rIx C.g.K) (UE C a) (UE C b)) (fun X hX => by
    have := pe_ix (pos := pos) ix_seq (ue hX a) (ue hX b) hs
    rw [hX.K] at this
    exact this) (ev_op ha hb fun I H adr σ E v w Q s hv hw q => by
      cases rep_int hw
      cases (show Rep I d1 v from hv) with
      | @tup p xs ds hp hr =>
        obtain ⟨x, e1, e2⟩ := reps_atI hr h
        exact .inr (.inl ⟨p, xs, i, x, rfl, rfl, .inl (.inl (s.ex _ _ hp)), e1, q x I H adr s Grow.refl e2⟩)
      | @lst p xs ds hp hr =>
        obtain ⟨x, e1, e2⟩ := reps_atI hr h
        exact .inl ⟨p, xs, i, x, rfl, rfl, .inl (.inl (s.ex _ _ hp)), e1, q x I H adr s Grow.refl e2⟩
      | _ => cases h)
theorem EV.ixC {n : Nat} {ps : List O} (ha : EV C a E M (.adr n) M1) (hb : EV C b E M1 (.dat (.int i)) M') (hm : M'[n]? = some (some ps)) (h : atI ps i = some o) (hs : PlainIx b := by exact fun _ _ => rfl) : EV C (.Subscript a b pos) E M o M' :=
  EV.mk (t := tOp (rIx C.g.K) (UE C a) (UE C b)) (fun X hX => by
    have := pe_ix (pos := pos) ix_seq (ue hX a) (ue hX b) hs
    rw [hX.K] at this
    exact this) (ev_op ha hb fun I H adr σ E v w Q s hv hw q => by
      cases rep_int hw
      obtain ⟨p, hp, rfl⟩ := hv
      obtain ⟨_, xs, h2, h3⟩ := s.sto.cell n p ps hp hm
      obtain ⟨x, e1, e2⟩ := vs_atI h3 h
      exact .inl ⟨p, xs, i, x, rfl, rfl, .inl (.inl h2), e1, q x I H adr s Grow.refl e2⟩)
/-- parts of a slice -/
def UO (C : Cc) (e : Option Expr) : TO := fun σ H Q => ∃ t : TO, (∀ X, CxIs C X → PO X e t) ∧ t σ H Q
theorem uo {C : Cc} {X : Cx} (h : CxIs C X) (e : Option Expr) : PO X e (UO C e) := ⟨fun pins s σ H Q I q => let ⟨_, p, q⟩ := q; (p X h).run pins s σ H Q I q⟩
def EO (C : Cc) (e : Option Expr) (E : List O) (M : Mem) (o : Option Int) (M' : Mem) : Prop :=
  ∀ (I H : Hp) (adr : List Addr) (σ : L2.St) (Q : Option Int → Hp → Prop), Stt I H adr σ E M → (∀ I' H' adr', Stt I' H' adr' σ E M' → Grow I H adr I' H' adr' → Q o H') → UO C e σ H Q
theorem EO.none : EO C none E M none M := fun I H adr σ Q s q => ⟨tNoPart, fun _ _ => po_none, q I H adr s Grow.refl⟩
theorem EO.some (h : EV C a E M (.dat (.int i)) M') : EO C (some a) E M (some i) M' := fun I H adr σ Q s q => ⟨tPart (UE C a), fun X hX => po_some (ue hX a), h I H adr σ _ s fun v I1 H1 adr1 s1 g1 v1 => by
  cases rep_int v1
  exact ⟨i, rfl, q I1 H1 adr1 s1 g1⟩⟩
def cutD {α : Type} (ds : List α) (lo hi : Option Int) : List α := (ds.drop (HT.sIx ds.length 0 lo)).take (HT.sIx ds.length ds.length hi - HT.sIx ds.length 0 lo)
theorem reps_cut {I : Hp} {ds : List D} {xs : List V} (r : Reps I ds xs) (lo hi : Option Int) : Reps I (cutD ds lo hi) (cutV xs lo hi) := by
  unfold cutD cutV
  rw [r.length]
  exact (r.drop _).take _
theorem vs_cut {I : Hp} {adr : List Addr} {ps : List O} {xs : List V} (r : Vs I adr ps xs) (lo hi : Option Int) : Vs I adr (cutD ps lo hi) (cutV xs lo hi) := by
  unfold cutD cutV
  rw [r.length]
  exact (r.drop _).take _
theorem cutD_all {α : Type} {ds : List α} {lo hi : Option Int} (h1 : HT.sIx ds.length 0 lo = 0) (h2 : HT.sIx ds.length ds.length hi = ds.length) : cutD ds lo hi = ds := by
  unfold cutD
  rw [h1, h2, List.drop_zero, Nat.sub_zero, List.take_length]
theorem EV.slT {ds : List D} {lo hi : Option Expr} {l u : Option Int} (ha : EV C a E M (.dat (.tup ds)) M1) (hl : EO C lo E M1 l M2) (hh : EO C hi E M2 u M') : EV C (.Subscript a (.Slice lo hi none p) pos) E M (.dat (.tup (cutD ds l u))) M' :=
  EV.mk (t := tSl (rSlA C.g.K) (UE C a) (UO C lo) (UO C hi)) (fun X hX => by
    have := pe_slice (p2 := p) (pos := pos) (sl_tupA (X := X)) (ue hX a) (uo hX lo) (uo hX hi)
    rw [hX.K] at this
    exact this) fun I H adr σ Q s q => ha I H adr σ _ s fun v I1 H1 adr1 s1 g1 v1 => hl I1 H1 adr1 σ _ s1 fun I2 H2 adr2 s2 g2 => hh I2 H2 adr2 σ _ s2 fun I3 H3 adr3 s3 g3 => by
      have v3 := (v1.mono g2).mono g3
      cases (show Rep I3 (.tup ds) v from v3) with
      | @tup b xs _ hb hr =>
        have l1 := hr.length
        refine ⟨b, xs, rfl, .inl (.inl (s3.ex _ _ hb)), fun hw => ?_, fun _ p hp => ?_⟩
        · rw [← l1] at hw
          rw [cutD_all hw.1 hw.2] at q
          exact q _ I3 H3 adr3 s3 ((g1.trans g2).trans g3) v3
        · obtain ⟨s4, g4, r4⟩ := s3.tup hp (reps_cut hr l u)
          exact q _ _ _ _ s4 (((g1.trans g2).trans g3).trans g4) r4
theorem EV.slL {ds : List D} {lo hi : Option Expr} {l u : Option Int} (ha : EV C a E M (.dat (.lst ds)) M1) (hl : EO C lo E M1 l M2) (hh : EO C hi E M2 u M') : EV C (.Subscript a (.Slice lo hi none p) pos) E M (.dat (.lst (cutD ds l u))) M' :=
  EV.mk (t := tSl (rSlL C.g.K) (UE C a) (UO C lo) (UO C hi)) (fun X hX => by
    have := pe_slice (p2 := p) (pos := pos) (sl_list (X := X)) (ue hX a) (uo hX lo) (uo hX hi)
    rw [hX.K] at this
    exact this) fun I H adr σ Q s q => ha I H adr σ _ s fun v I1 H1 adr1 s1 g1 v1 => hl I1 H1 adr1 σ _ s1 fun I2 H2 adr2 s2 g2 => hh I2 H2 adr2 σ _ s2 fun I3 H3 adr3 s3 g3 => by
      have v3 := (v1.mono g2).mono g3
      cases (show Rep I3 (.lst ds) v from v3) with
      | @lst b xs _ hb hr =>
        refine ⟨b, xs, rfl, .inl (.inl (s3.ex _ _ hb)), fun p hp => ?_⟩
        obtain ⟨s4, g4, r4⟩ := s3.lst hp (reps_cut hr l u)
        exact q _ _ _ _ s4 (((g1.trans g2).trans g3).trans g4) r4
/-- a slice of a cell of data -/
theorem EV.slC {n : Nat} {ds : List D} {lo hi : Option Expr} {l u : Option Int} (ha : EV C a E M (.adr n) M1) (hl : EO C lo E M1 l M2) (hh : EO C hi E M2 u M') (hm : M'[n]? = some (some (ds.map .dat))) : EV C (.Subscript a (.Slice lo hi none p) pos) E M (.dat (.lst (cutD ds l u))) M' :=
  EV.mk (t := tSl (rSlL C.g.K) (UE C a) (UO C lo) (UO C hi)) (fun X hX => by
    have := pe_slice (p2 := p) (pos := pos) (sl_list (X := X)) (ue hX a) (uo hX lo) (uo hX hi)
    rw [hX.K] at this
    exact this) fun I H adr σ Q s q => ha I H adr σ _ s fun v I1 H1 adr1 s1 g1 v1 => hl I1 H1 adr1 σ _ s1 fun I2 H2 adr2 s2 g2 => hh I2 H2 adr2 σ _ s2 fun I3 H3 adr3 s3 g3 => by
      obtain ⟨b, hb, rfl⟩ := (v1.mono g2).mono g3
      obtain ⟨_, xs, h2, h3⟩ := s3.sto.cell n b _ hb hm
      refine ⟨b, xs, rfl, .inl (.inl h2), fun p hp => ?_⟩
      obtain ⟨s4, g4, r4⟩ := s3.lst hp (reps_cut h3.to l u)
      exact q _ _ _ _ s4 (((g1.trans g2).trans g3).trans g4) r4

/-! #### calls of built-ins -/
def RK (r : List V → Hp → VK → Prop) (os : List O) (M : Mem) (o : O) (M' : Mem) : Prop :=
  ∀ (I H : Hp) (adr : List Addr) (σ : L2.St) (E : List O) (vs : List V) (Q : VK), Stt I H adr σ E M → Vs I adr os vs → (∀ z I' H' adr', Stt I' H' adr' σ E M' → Grow I H adr I' H' adr' → Vo I' adr' o z → Q z H') → r vs H Q
def KS (C : Cc) (f : Value) (os : List O) (M : Mem) (o : O) (M' : Mem) : Prop := ∃ r, (∀ X, CxIs C X → CallR X f r) ∧ RK r os M o M'
theorem ev_cb {r : List V → Hp → VK → Prop} {ta : TA} (ha : Ea ta E M os M1) (hr : RK r os M1 o M') : Ev (tCB r ta) E M o M' := fun I H adr σ Q s q =>
  ha I H adr σ _ s fun vs I1 H1 adr1 s1 g1 v1 => hr I1 H1 adr1 σ E vs Q s1 v1 fun z I2 H2 adr2 s2 g2 z2 => q z I2 H2 adr2 s2 (g1.trans g2) z2
theorem EV.cb {id : String} {x : Str} {es : List Expr} (S : KS C (.builtin id) os M1 o M') (ha : EA C (e :: es) E M os M1) (hm : Bt C.g x) (hv : bootBuiltins x = some (.builtin id)) (hg : C.sc.names.lookup x = some .globalImplicit := by rfl) (hn : x ≠ "__name__" := by decide) (hdb : (x == ("__debug__" : Str)) = false := by decide)
    (he : ∀ env, starEach (e :: es) env = (false, eval e env) :: starEach es env := by intro _; rfl) (hpl : ∀ env, (backTo pos (starEach es env)).any (·.1) = false := by intro _; rfl) : EV C (.Call (.Name x p) (e :: es) [] pos) E M o M' := by
  obtain ⟨r, h1, h2⟩ := S
  exact EV.mk (fun X hX => pe_callB (h1 X hX) (by show X.env.scope.names.lookup x = _; rw [hX.sc]; exact hg) (by rw [hX.mg]; exact hm) hv (ua hX _) hn hdb (he X.env) (hpl X.env)) (ev_cb ha h2)
theorem EV.cty {T : String} {x : Str} {es : List Expr} (S : KS C (.type T) os M1 o M') (ha : EA C (e :: es) E M os M1) (hm : Bt C.g x) (hv : bootBuiltins x = some (.type T)) (hg : C.sc.names.lookup x = some .globalImplicit := by rfl) (hn : x ≠ "__name__" := by decide) (hdb : (x == ("__debug__" : Str)) = false := by decide)
    (he : ∀ env, starEach (e :: es) env = (false, eval e env) :: starEach es env := by intro _; rfl) (hpl : ∀ env, (backTo pos (starEach es env)).any (·.1) = false := by intro _; rfl) : EV C (.Call (.Name x p) (e :: es) [] pos) E M o M' := by
  obtain ⟨r, h1, h2⟩ := S
  exact EV.mk (fun X hX => pe_callTy (h1 X hX) (by show X.env.scope.names.lookup x = _; rw [hX.sc]; exact hg) (by rw [hX.mg]; exact hm) hv (ua hX _) hn hdb (he X.env) (hpl X.env)) (ev_cb ha h2)
theorem vsOne {I : Hp} {adr : List Addr} {vs : List V} (h : Vs I adr [o] vs) : ∃ v, vs = [v] ∧ Vo I adr o v := by
  cases h with
  | cons h r =>
    cases r
    exact ⟨_, rfl, h⟩
theorem vsTwo {I : Hp} {adr : List Addr} {vs : List V} (h : Vs I adr [o1, o2] vs) : ∃ v w, vs = [v, w] ∧ Vo I adr o1 v ∧ Vo I adr o2 w := by
  cases h with
  | cons h r =>
    obtain ⟨w, rfl, hw⟩ := vsOne r
    exact ⟨_, w, rfl, h, hw⟩
def lenD : D → Option Nat
  | .tup ds => some ds.length
  | .lst ds => some ds.length
  | _ => none
theorem KS.len {n : Nat} (h : lenD d = some n) : KS C (.builtin "len") [.dat d] M (.dat (.int (n : Int))) M := ⟨_, fun X hX => by
  have := call_len_seq (X := X)
  rw [hX.K] at this
  exact this, fun I H adr σ E vs Q s hv q => by
  obtain ⟨v, ev, hz⟩ := vsOne hv
  subst ev
  have hv := hz
  cases (show Rep I d v from hv) with
  | @tup p xs ds hp hr =>
    cases h
    refine ⟨p, xs, rfl, .inr (.inl (.inl (s.ex _ _ hp))), q _ I H adr s Grow.refl ?_⟩
    rw [hr.length]
    exact .int _
  | @lst p xs ds hp hr =>
    cases h
    refine ⟨p, xs, rfl, .inl (.inl (.inl (s.ex _ _ hp))), q _ I H adr s Grow.refl ?_⟩
    rw [hr.length]
    exact .int _
  | _ => cases h⟩
theorem KS.lenC {n : Nat} {ps : List O} (h : M[n]? = some (some ps)) : KS C (.builtin "len") [.adr n] M (.dat (.int (ps.length : Int))) M := ⟨_, fun X hX => by
  have := call_len_seq (X := X)
  rw [hX.K] at this
  exact this, fun I H adr σ E vs Q s hv q => by
  obtain ⟨v, ev, hz⟩ := vsOne hv
  subst ev
  have hv := hz
  obtain ⟨p, hp, rfl⟩ := hv
  obtain ⟨_, xs, h2, h3⟩ := s.sto.cell n p ps hp h
  refine ⟨p, xs, rfl, .inl (.inl (.inl h2)), q _ I H adr s Grow.refl ?_⟩
  rw [h3.length]
  exact .int _⟩
theorem reps_bl {I : Hp} : ∀ {bs : List Bool} {xs : List V}, Reps I (bs.map .bl) xs → xs = bs.map V.bl
  | [], _, .nil => rfl
  | b :: bs, _, .cons h r => by
    cases h
    rw [reps_bl r]
    rfl
theorem reps_int {I : Hp} : ∀ {ns : List Int} {xs : List V}, Reps I (ns.map .int) xs → xs = ns.map V.int
  | [], _, .nil => rfl
  | n :: ns, _, .cons h r => by
    cases h
    rw [reps_int r]
    rfl
theorem KS.sum {ns : List Int} : KS C (.builtin "sum") [.dat (.lst (ns.map .int))] M (.dat (.int ns.sum)) M := ⟨_, fun X hX => by
  have := cr_sum (X := X) hX.calm
  rw [hX.K] at this
  exact this, fun I H adr σ E vs Q s hv q => by
  obtain ⟨v, ev, hz⟩ := vsOne hv
  subst ev
  have hv := hz
  cases (show Rep I (.lst (ns.map .int)) v from hv) with
  | @lst p xs ds hp hr =>
    have e := reps_int hr
    subst e
    exact ⟨p, ns, rfl, .inl (.inl (s.ex _ _ hp)), q _ I H adr s Grow.refl (.int _)⟩⟩
theorem KS.all {bs : List Bool} : KS C (.builtin "all") [.dat (.lst (bs.map .bl))] M (.dat (.bl (bs.all id))) M := ⟨_, fun X hX => by
  have := cr_all (X := X) hX.calm
  rw [hX.K] at this
  exact this, fun I H adr σ E vs Q s hv q => by
  obtain ⟨v, ev, hz⟩ := vsOne hv
  subst ev
  have hv := hz
  cases (show Rep I (.lst (bs.map .bl)) v from hv) with
  | @lst p xs ds hp hr =>
    have e := reps_bl hr
    subst e
    exact ⟨p, bs, rfl, .inl (.inl (s.ex _ _ hp)), q _ I H adr s Grow.refl (.bl _)⟩⟩
theorem KS.any {bs : List Bool} : KS C (.builtin "any") [.dat (.lst (bs.map .bl))] M (.dat (.bl (bs.any id))) M := ⟨_, fun X hX => by
  have := cr_any (X := X) hX.calm
  rw [hX.K] at this
  exact this, fun I H adr σ E vs Q s hv q => by
  obtain ⟨v, ev, hz⟩ := vsOne hv
  subst ev
  have hv := hz
  cases (show Rep I (.lst (bs.map .bl)) v from hv) with
  | @lst p xs ds hp hr =>
    have e := reps_bl hr
    subst e
    exact ⟨p, bs, rfl, .inl (.inl (s.ex _ _ hp)), q _ I H adr s Grow.refl (.bl _)⟩⟩
theorem KS.minL {ns : List Int} {m : Int} (h : m ∈ ns) (hm : ∀ y ∈ ns, m ≤ y) : KS C (.builtin "min") [.dat (.lst (ns.map .int))] M (.dat (.int m)) M := ⟨_, fun X hX => by
  have := cr_min (X := X) hX.calm
  rw [hX.K] at this
  exact this, fun I H adr σ E vs Q s hv q => by
  obtain ⟨v, ev, hz⟩ := vsOne hv
  subst ev
  have hv := hz
  cases (show Rep I (.lst (ns.map .int)) v from hv) with
  | @lst p xs ds hp hr =>
    have e := reps_int hr
    subst e
    refine ⟨p, ns, rfl, .inl (.inl (s.ex _ _ hp)), List.length_pos_of_mem h, fun m' h1 h2 => ?_⟩
    have : m' = m := Int.le_antisymm (h2 m h) (hm m' h1)
    subst this
    exact q _ I H adr s Grow.refl (.int _)⟩
theorem KS.maxL {ns : List Int} {m : Int} (h : m ∈ ns) (hm : ∀ y ∈ ns, y ≤ m) : KS C (.builtin "max") [.dat (.lst (ns.map .int))] M (.dat (.int m)) M := ⟨_, fun X hX => by
  have := cr_max (X := X) hX.calm
  rw [hX.K] at this
  exact this, fun I H adr σ E vs Q s hv q => by
  obtain ⟨v, ev, hz⟩ := vsOne hv
  subst ev
  have hv := hz
  cases (show Rep I (.lst (ns.map .int)) v from hv) with
  | @lst p xs ds hp hr =>
    have e := reps_int hr
    subst e
    refine ⟨p, ns, rfl, .inl (.inl (s.ex _ _ hp)), List.length_pos_of_mem h, fun m' h1 h2 => ?_⟩
    have : m' = m := Int.le_antisymm (hm m' h1) (h2 m h)
    subst this
    exact q _ I H adr s Grow.refl (.int _)⟩
theorem KS.max2 : KS C (.builtin "max") [.dat (.int i), .dat (.int j)] M (.dat (.int (if j > i then j else i))) M := ⟨_, fun X hX => call_max2 hX.calm, fun I H adr σ E vs Q s hv q => by
  obtain ⟨v, w, ev, hz, hw⟩ := vsTwo hv
  subst ev
  have hv := hz
  cases rep_int hv
  cases rep_int hw
  exact ⟨i, j, rfl, q _ I H adr s Grow.refl (.int _)⟩⟩
theorem KS.abs : KS C (.builtin "abs") [.dat (.int i)] M (.dat (.int (i.natAbs : Int))) M := ⟨_, fun X hX => call_abs, fun I H adr σ E vs Q s hv q => by
  obtain ⟨v, ev, hz⟩ := vsOne hv
  subst ev
  have hv := hz
  cases rep_int hv
  refine ⟨i, rfl, q _ I H adr s Grow.refl ?_⟩
  have : (if i < 0 then -i else i) = (i.natAbs : Int) := by split <;> omega
  rw [this]
  exact .int _⟩
theorem KS.intI : KS C (.type "int") [.dat (.int i)] M (.dat (.int i)) M := ⟨_, fun X hX => call_int1, fun I H adr σ E vs Q s hv q => by
  obtain ⟨v, ev, hz⟩ := vsOne hv
  subst ev
  have hv := hz
  cases rep_int hv
  exact .inl ⟨i, rfl, q _ I H adr s Grow.refl (.int _)⟩⟩
theorem KS.intB : KS C (.type "int") [.dat (.bl k)] M (.dat (.int (if k then 1 else 0))) M := ⟨_, fun X hX => call_int1, fun I H adr σ E vs Q s hv q => by
  obtain ⟨v, ev, hz⟩ := vsOne hv
  subst ev
  have hv := hz
  cases rep_bl hv
  exact .inr ⟨k, rfl, q _ I H adr s Grow.refl (.int _)⟩⟩
def seqD : D → Option (List D)
  | .tup ds => some ds
  | .lst ds => some ds
  | _ => none
theorem KS.tuple {ds : List D} (h : seqD d = some ds) : KS C (.type "tuple") [.dat d] M (.dat (.tup ds)) M := ⟨_, fun X hX => by
  have := call_tuple_of (X := X)
  rw [hX.K] at this
  exact this, fun I H adr σ E vs Q s hv q => by
  obtain ⟨v, ev, hz⟩ := vsOne hv
  subst ev
  have hv := hz
  cases (show Rep I d v from hv) with
  | @tup p xs ds hp hr =>
    cases h
    exact ⟨p, xs, rfl, .inr ⟨.inl (.inl (s.ex _ _ hp)), q _ I H adr s Grow.refl hv⟩⟩
  | @lst p xs ds hp hr =>
    cases h
    refine ⟨p, xs, rfl, .inl ⟨.inl (.inl (s.ex _ _ hp)), fun l hl => ?_⟩⟩
    obtain ⟨s2, g2, r2⟩ := s.tup hl hr
    exact q _ _ _ _ s2 g2 r2
  | _ => cases h⟩
theorem KS.tupleC {n : Nat} {ds : List D} (h : M[n]? = some (some (ds.map .dat))) : KS C (.type "tuple") [.adr n] M (.dat (.tup ds)) M := ⟨_, fun X hX => by
  have := call_tuple_of (X := X)
  rw [hX.K] at this
  exact this, fun I H adr σ E vs Q s hv q => by
  obtain ⟨v, ev, hz⟩ := vsOne hv
  subst ev
  have hv := hz
  obtain ⟨p, hp, rfl⟩ := hv
  obtain ⟨_, xs, h2, h3⟩ := s.sto.cell n p _ hp h
  refine ⟨p, xs, rfl, .inl ⟨.inl (.inl h2), fun l hl => ?_⟩⟩
  obtain ⟨s2, g2, r2⟩ := s.tup hl h3.to
  exact q _ _ _ _ s2 g2 r2⟩
theorem KS.list {ds : List D} (h : seqD d = some ds) : KS C (.type "list") [.dat d] M (.dat (.lst ds)) M := ⟨_, fun X hX => by
  have := call_list_of (X := X)
  rw [hX.K] at this
  exact this, fun I H adr σ E vs Q s hv q => by
  obtain ⟨v, ev, hz⟩ := vsOne hv
  subst ev
  have hv := hz
  cases (show Rep I d v from hv) with
  | @tup p xs ds hp hr =>
    cases h
    refine ⟨p, xs, rfl, .inr (.inl (.inl (s.ex _ _ hp))), fun l hl => ?_⟩
    obtain ⟨s2, g2, r2⟩ := s.lst hl hr
    exact q _ _ _ _ s2 g2 r2
  | @lst p xs ds hp hr =>
    cases h
    refine ⟨p, xs, rfl, .inl (.inl (.inl (s.ex _ _ hp))), fun l hl => ?_⟩
    obtain ⟨s2, g2, r2⟩ := s.lst hl hr
    exact q _ _ _ _ s2 g2 r2
  | _ => cases h⟩
/-- list(..) that is a cell -/
theorem KS.listN {ds : List D} (h : seqD d = some ds) : KS C (.type "list") [.dat d] M (.adr M.length) (M ++ [some (ds.map .dat)]) := ⟨_, fun X hX => by
  have := call_list_of (X := X)
  rw [hX.K] at this
  exact this, fun I H adr σ E vs Q s hv q => by
  obtain ⟨v, ev, hz⟩ := vsOne hv
  subst ev
  have hv := hz
  cases (show Rep I d v from hv) with
  | @tup p xs ds hp hr =>
    cases h
    refine ⟨p, xs, rfl, .inr (.inl (.inl (s.ex _ _ hp))), fun l hl => ?_⟩
    obtain ⟨s2, g2, r2⟩ := s.cel hl (Vs.reps hr)
    exact q _ _ _ _ s2 g2 ⟨l, r2, rfl⟩
  | @lst p xs ds hp hr =>
    cases h
    refine ⟨p, xs, rfl, .inl (.inl (.inl (s.ex _ _ hp))), fun l hl => ?_⟩
    obtain ⟨s2, g2, r2⟩ := s.cel hl (Vs.reps hr)
    exact q _ _ _ _ s2 g2 ⟨l, r2, rfl⟩
  | _ => cases h⟩

/-! #### isinstance -/
def D.ty : D → String
  | .non => "NoneType" | .bl _ => "bool" | .int _ => "int" | .str _ => "str" | .tup _ => "tuple" | .lst _ => "list" | .dct _ _ => "dict"
theorem ty_of {K : PySem.W.Frag} {I H : Hp} {v : V} (e : Ex I H) (h : Rep I d v) : TyX K H v (.type d.ty) := by
  cases h with
  | non => exact .base .non
  | bl b => exact .base (.bl b)
  | int i => exact .base (.int i)
  | str x => exact .base (.str x)
  | tup h r => exact .base (.tup (e _ _ h))
  | lst h r => exact .base (.lst (e _ _ h))
  | dct h r => exact .base (.dK (e _ _ h))
/-- isinstance(x, T), T the name of a built-in class -/
theorem EV.isi {T : Str} {Tn : String} {x : Str} {pt : Pos} (ha : EV C a E M (.dat d) M') (hm : Bt C.g "isinstance") (hmT : Bt C.g T) (hv : bootBuiltins T = some (.type Tn)) (hk : kitB d.ty Tn = some k) (hx : x = "isinstance" := by rfl)
    (hg : C.sc.names.lookup x = some .globalImplicit := by rfl) (hgT : C.sc.names.lookup T = some .globalImplicit := by rfl) (hn : x ≠ "__name__" := by decide) (hdb : (x == ("__debug__" : Str)) = false := by decide) (hnT : T ≠ "__name__" := by decide) (hdbT : (T == ("__debug__" : Str)) = false := by decide)
    (hs : ∀ env, starEach [a, .Name T pt] env = (false, eval a env) :: starEach [.Name T pt] env := by intro _; rfl) (hpl : ∀ env, (backTo pos (starEach [.Name T pt] env)).any (·.1) = false := by intro _; rfl) : EV C (.Call (.Name x p) [a, .Name T pt] [] pos) E M (.dat (.bl k)) M' := by
  subst hx
  refine EV.mk (t := tCB (rIsi C.g.K) (tCons (UE C a) (tCons (tC (.ty Tn)) tNil))) (fun X hX => ?_) fun I H adr σ Q s q => ?_
  · have h1 := call_isi (X := X)
    rw [hX.K] at h1
    refine pe_callB h1 (by show X.env.scope.names.lookup _ = _; rw [hX.sc]; exact hg) (by rw [hX.mg]; exact hm) (by decide +kernel) (pa_cons (ue hX a) (pa_cons (pe_bltn (v := .ty Tn) (by show X.env.scope.names.lookup _ = _; rw [hX.sc]; exact hgT) (by rw [hX.mg]; exact hmT) hv rfl hnT hdbT) pa_nil) (hs X.env)) hn hdb (hs X.env) (hpl X.env)
  · refine ha I H adr σ _ s fun v I1 H1 adr1 s1 g1 v1 => ?_
    exact ⟨v, .ty Tn, _, _, k, rfl, .ty Tn, ty_of s1.ex v1, kit_ty hk, q _ I1 H1 adr1 s1 g1 (.bl _)⟩
/-- isinstance(x, (T1, T2)) -/
theorem EV.isi2 {T1 T2 : Str} {Tn1 Tn2 : String} {x : Str} {pt1 pt2 pt : Pos} {k1 k2 : Bool} {kt : Nat} (ha : EV C a E M (.dat d) M') (hm : Bt C.g "isinstance") (hm1 : Bt C.g T1) (hm2 : Bt C.g T2) (hv1 : bootBuiltins T1 = some (.type Tn1)) (hv2 : bootBuiltins T2 = some (.type Tn2)) (hk1 : kitB d.ty Tn1 = some k1) (hk2 : kitB d.ty Tn2 = some k2) (hx : x = "isinstance" := by rfl)
    (hg : C.sc.names.lookup x = some .globalImplicit := by rfl) (hg1 : C.sc.names.lookup T1 = some .globalImplicit := by rfl) (hg2 : C.sc.names.lookup T2 = some .globalImplicit := by rfl) (hn : x ≠ "__name__" := by decide) (hdb : (x == ("__debug__" : Str)) = false := by decide) (hn1 : T1 ≠ "__name__" := by decide) (hdb1 : (T1 == ("__debug__" : Str)) = false := by decide) (hn2 : T2 ≠ "__name__" := by decide) (hdb2 : (T2 == ("__debug__" : Str)) = false := by decide)
    (hs : ∀ env, starEach [a, .Tuple [.Name T1 pt1, .Name T2 pt2] kt pt] env = (false, eval a env) :: starEach [.Tuple [.Name T1 pt1, .Name T2 pt2] kt pt] env := by intro _; rfl) (hpl : ∀ env, (backTo pos (starEach [.Tuple [.Name T1 pt1, .Name T2 pt2] kt pt] env)).any (·.1) = false := by intro _; rfl) :
    EV C (.Call (.Name x p) [a, .Tuple [.Name T1 pt1, .Name T2 pt2] kt pt] [] pos) E M (.dat (.bl (k1 || k2))) M' := by
  subst hx
  refine EV.mk (t := tCB (rIsiT C.g.K) (tCons (UE C a) (tCons (tTup (tCons (tC (.ty Tn1)) (tCons (tC (.ty Tn2)) tNil))) tNil))) (fun X hX => ?_) fun I H adr σ Q s q => ?_
  · have h1 := call_isiT (X := X)
    rw [hX.K] at h1
    refine pe_callB h1 (by show X.env.scope.names.lookup _ = _; rw [hX.sc]; exact hg) (by rw [hX.mg]; exact hm) (by decide +kernel)
      (pa_cons (ue hX a) (pa_cons (pe_tup (pa_cons (pe_bltn (v := .ty Tn1) (by show X.env.scope.names.lookup _ = _; rw [hX.sc]; exact hg1) (by rw [hX.mg]; exact hm1) hv1 rfl hn1 hdb1) (pa_cons (pe_bltn (v := .ty Tn2) (by show X.env.scope.names.lookup _ = _; rw [hX.sc]; exact hg2) (by rw [hX.mg]; exact hm2) hv2 rfl hn2 hdb2) pa_nil))) pa_nil) (hs X.env)) hn hdb (hs X.env) (hpl X.env)
  · refine ha I H adr σ _ s fun v I1 H1 adr1 s1 g1 v1 => ?_
    refine ⟨by show 2 ≤ sizeLine; decide, fun tp htp => ?_⟩
    have hi := s1.ex.non htp
    have ex2 : Ex I1 (upd H1 tp (.tup [.ty Tn1, .ty Tn2])) := s1.ex.mut hi
    refine ⟨v, tp, [.ty Tn1, .ty Tn2], _, [.type Tn1, .type Tn2], k1 || k2, rfl, upd_same, .cons (.ty Tn1) (.cons (.ty Tn2) .nil), ty_of ex2 v1, ?_, ?_⟩
    · refine kitAny_cons (kit_ty hk1) (fun e => kitAny_cons (r := k1 || k2) (kit_ty hk2) (fun e2 => by rw [e, e2]; exact kitAny_nil) (fun e2 => by rw [e2]; simp)) (fun e => by rw [e]; rfl)
    · have g2 : Grow I1 H1 adr1 I1 (upd H1 tp (.tup [.ty Tn1, .ty Tn2])) adr1 :=
        ⟨Ex.refl _, ⟨[], by simp, by simp⟩, fun q u h _ => by rw [upd_ne (ne_of_none h htp)]; exact h, fun q u h => ⟨u, by rw [upd_ne (ne_of_none h htp)]; exact h⟩, fun _ _ _ h _ => h⟩
      have t2 : Sto I1 (upd H1 tp (.tup [.ty Tn1, .ty Tn2])) adr1 M' := by
        refine ⟨s1.sto.len, s1.sto.nd, fun kk b ps h1 h2 => ?_, fun kk b h => ?_⟩
        · obtain ⟨c1, ys, c2, c3⟩ := s1.sto.cell kk b ps h1 h2
          exact ⟨c1, ys, by rw [upd_ne (ne_of_none c2 htp)]; exact c2, c3⟩
        · obtain ⟨u, hu⟩ := s1.sto.dom kk b h
          exact ⟨u, by rw [upd_ne (ne_of_none hu htp)]; exact hu⟩
      exact q _ I1 _ adr1 (s1.mono g2 ex2 t2) (g1.trans g2) (.bl _)
end
end Ab
/-! Ab: targets, loops, comprehensions, methods, calls. -/
namespace Ab
open PySem PySem.Spec PyProof.Rows L2

/-! ### targets -/
def UG (C : Cc) (tg : Expr) : TG := fun v σ H Q => ∃ t : TG, (∀ X, CxIs C X → PG X tg t) ∧ t v σ H Q
def UGs (C : Cc) (tgs : List Expr) : TGs := fun vs σ H Q => ∃ t : TGs, (∀ X, CxIs C X → PGs X tgs t) ∧ t vs σ H Q
theorem ug {C : Cc} {X : Cx} (h : CxIs C X) (e : Expr) : PG X e (UG C e) := ⟨fun pins s σ H v u Q I r q => let ⟨_, p, q⟩ := q; (p X h).run pins s σ H v u Q I r q⟩
theorem ugs {C : Cc} {X : Cx} (h : CxIs C X) (es : List Expr) : PGs X es (UGs C es) := ⟨fun pins s σ H vs us Q I r q => let ⟨_, p, q⟩ := q; (p X h).run pins s σ H vs us Q I r q⟩
def EG (C : Cc) (tg : Expr) (o : O) (E : List O) (M : Mem) (E' : List O) (M' : Mem) : Prop :=
  ∀ (I H : Hp) (adr : List Addr) (σ : L2.St) (v : V) (Q : L2.St → Hp → Prop), Stt I H adr σ E M → Vo I adr o v → (∀ I' H' adr' σ', Stt I' H' adr' σ' E' M' → Grow I H adr I' H' adr' → Q σ' H') → UG C tg v σ H Q
def EGs (C : Cc) (tgs : List Expr) (os : List O) (E : List O) (M : Mem) (E' : List O) (M' : Mem) : Prop :=
  ∀ (I H : Hp) (adr : List Addr) (σ : L2.St) (vs : List V) (Q : L2.St → Hp → Prop), Stt I H adr σ E M → Vs I adr os vs → (∀ I' H' adr' σ', Stt I' H' adr' σ' E' M' → Grow I H adr I' H' adr' → Q σ' H') → UGs C tgs vs σ H Q
/-- what is forgotten -/
def Fg (E E' : List O) : Prop := E.length = E'.length ∧ ∀ (i : Nat) (o : O), E'[i]? = some o → o = .no ∨ E[i]? = some o
theorem Fg.refl {E : List O} : Fg E E := ⟨rfl, fun _ _ h => .inr h⟩
theorem Fg.cons {o : O} {E E' : List O} (h : Fg E E') : Fg (o :: E) (o :: E') := ⟨by simp [h.1], fun i p q => by
  cases i with
  | zero => exact .inr q
  | succ i => exact h.2 i p (by simpa using q)⟩
theorem Fg.no {o : O} {E E' : List O} (h : Fg E E') : Fg (o :: E) (.no :: E') := ⟨by simp [h.1], fun i p q => by
  cases i with
  | zero => exact .inl (by simpa using q.symm)
  | succ i => exact h.2 i p (by simpa using q)⟩
theorem Fg.nil : Fg [] [] := Fg.refl
theorem Stt.forget {I H : Hp} {adr : List Addr} {σ : L2.St} {E E' : List O} {M : Mem} (s : Stt I H adr σ E M) (f : Fg E E') : Stt I H adr σ E' M :=
  ⟨s.ex, s.sto, f.1.symm.trans s.len, fun i o ov h1 h2 => by
    rcases f.2 i o h1 with e | e
    · subst e
      cases ov with
      | none => rfl
      | some v => exact True.intro
    · exact s.slot i o ov e h2⟩

section
variable {C : Cc} {E E1 E2 E' : List O} {M M1 M2 M3 M' : Mem} {o o1 o2 o3 : O} {os : List O} {e a b c tg iter elt : Expr} {es : List Expr} {pos pos' p : Pos} {d d1 d2 : D} {i j : Int} {k k' : Bool} {r : Out} {body : List Stmt}
theorem EG.nm (i : Nat) {x : Str} (nd : C.N.Nodup) (hi : C.N[i]? = some x := by rfl) (hx : Loc C.sc x := by first | exact Or.inl rfl | exact Or.inr rfl) (hf : C.fn x = true ∨ C.sc.names.lookup x = some .local := by first | exact .inl rfl | exact .inr rfl) : EG C (.Name x pos) o E M (E.set i o) M :=
  fun I H adr σ v Q s hv q => ⟨gName i, fun X hX => pg_name (by rw [hX.N]; exact nd) (by rw [hX.N]; exact hi) (by rw [hX.sc]; exact hx) (hf.elim (fun z => .inl (hX.fn x z)) (fun z => .inr (by rw [hX.sc]; exact z))), q I H adr _ (s.set hv) Grow.refl⟩
theorem EGs.nil : EGs C [] [] E M E M := fun I H adr σ vs Q s hv q => by
  cases hv
  exact ⟨gNil, fun _ _ => pgs_nil, rfl, q I H adr σ s Grow.refl⟩
theorem EGs.cons (h : EG C a o E M E1 M1) (hr : EGs C es os E1 M1 E' M') (hs : ∀ env, (assignEach (a :: es) env).map (·.2) = assign a env :: (assignEach es env).map (·.2) := by intro _; rfl) : EGs C (a :: es) (o :: os) E M E' M' :=
  fun I H adr σ vs Q s hv q => by
    cases hv with
    | @cons _ v _ vs hv hr' =>
      refine ⟨gCons (UG C a) (UGs C es), fun X hX => pgs_cons (ug hX a) (ugs hX es) (hs X.env), v, vs, rfl, ?_⟩
      exact h I H adr σ v _ s hv fun I1 H1 adr1 σ1 s1 g1 => hr I1 H1 adr1 σ1 vs Q s1 (Vs.mono g1 hr') fun I2 H2 adr2 σ2 s2 g2 => q I2 H2 adr2 σ2 s2 (g1.trans g2)
theorem EG.tup {ds : List D} {kk : Nat} (h : EGs C es (ds.map .dat) E M E' M') (hn : ∀ env, (assignEach es env).length = ds.length := by intro _; rfl) (hst : ∀ env, (assignEach es env).findIdx? (·.1) = none := by intro _; rfl) : EG C (.Tuple es kk pos) (.dat (.tup ds)) E M E' M' :=
  fun I H adr σ v Q s hv q => by
    cases (show Rep I (.tup ds) v from hv) with
    | @tup p xs _ hp hr =>
      refine ⟨gTup C.g.K ds.length (UGs C es), fun X hX => by
        have := pg_tup (pos := pos) (k := kk) hX.calm (ugs hX es) (hn X.env) (hst X.env)
        rw [hX.K] at this
        exact this, p, xs, rfl, .inl (.inl (s.ex _ _ hp)), hr.length.symm, ?_⟩
      exact h I H adr σ xs Q s (Vs.reps hr) q
/-- o[i] = .., o a cell -/
theorem EG.sub {n jj : Nat} {ps : List O} (ho : EV C a E M (.adr n) M1) (hi : EV C b E M1 (.dat (.int i)) M2) (hm : M2[n]? = some (some ps)) (hj : ixN ps.length i = some jj)
    (ha : ∀ env v, assign (.Subscript a b pos) env v = (do
      let ov ← holding [v] (eval a env)
      let iv ← holding [v, ov] (eval b env)
      standAt pos
      holding [v, ov, iv] (setItem ov iv v)
      release [v, ov, iv] []) := by intro _ _; rfl) : EG C (.Subscript a b pos) o E M E (M2.set n (some (ps.set jj o))) :=
  fun I H adr σ v Q s hv q => ⟨gSub (UE C a) (UE C b) rSetL, fun X hX => pg_sub (ue hX a) (ue hX b) set_list (ha X.env),
    ho I H adr σ _ s fun x I1 H1 adr1 s1 g1 x1 => hi I1 H1 adr1 σ _ s1 fun y I2 H2 adr2 s2 g2 y2 => by
      cases rep_int y2
      obtain ⟨p, hp, rfl⟩ := x1.mono g2
      obtain ⟨_, xs, h2, h3⟩ := s2.sto.cell n p ps hp hm
      have hv2 : Vo I2 adr2 o v := (hv.mono g1).mono g2
      obtain ⟨s4, g4⟩ := s2.wri hp hm (Vs.set hv2 jj h3)
      exact ⟨p, xs, i, jj, rfl, rfl, h2, by rw [← h3.length]; exact hj, q _ _ _ _ s4 ((g1.trans g2).trans g4)⟩⟩
/-- target = e -/
theorem ST.asg (he : EV C e E M o M1) (hg : EG C tg o E M1 E' M') (hs : ∀ env, swapsWithSole [tg] e pos.line env = pure false := by intro _; rfl) (hw : ∀ env, swappedStores [tg] e env = pure none := by intro _; rfl) (h1 : ∀ env, (assignEach [tg] env).map (·.2) = [assign tg env] := by intro _; rfl) : ST C (.Assign [tg] e pos) E M (.nx E' M') :=
  ST.mk (fun X hX => ps_asg (ue hX e) (ug hX tg) (hs X.env) (hw X.env) (h1 X.env)) fun I H adr σ D s q => he I H adr σ _ s fun v I1 H1 adr1 s1 g1 v1 => hg I1 H1 adr1 σ v _ s1 v1 fun I2 H2 adr2 σ2 s2 g2 => q I2 H2 adr2 σ2 s2 (g1.trans g2)
theorem ST.forget {st : Stmt} (h : ST C st E M (.nx E1 M')) (f : Fg E1 E2) : ST C st E M (.nx E2 M') := fun I H adr σ D s q => h I H adr σ D s fun I1 H1 adr1 σ1 s1 g1 => q I1 H1 adr1 σ1 (s1.forget f) g1
theorem SB.forget {sts : List Stmt} (f : Fg E E1) (h : SB C sts E1 M r) : SB C sts E M r := fun I H adr σ D s q => h I H adr σ D (s.forget f) q

/-! ### what is walked -/
def Runs (J : It) (I1 H1 : Hp) (adr1 : List Addr) (n : Nat) (it : Nat → O) (inv : Mem → Prop) : Prop :=
  ∀ (I2 H2 : Hp) (adr2 : List Addr) (σ2 : L2.St) (E2 : List O) (M2 : Mem), Stt I2 H2 adr2 σ2 E2 M2 → Grow I1 H1 adr1 I2 H2 adr2 → inv M2 → J.stop n H2 ∧
    ∀ i, i < n → J.go i H2 ∧ ∀ x H3, J.yld i H2 x H3 → ∃ I3, Stt I3 H3 adr2 σ2 E2 M2 ∧ Grow I2 H2 adr2 I3 H3 adr2 ∧ Vo I3 adr2 (it i) x
def UI (C : Cc) (tg iter : Expr) : TI := fun σ H R => ∃ t : TI, (∀ X, CxIs C X → PI X tg iter t) ∧ t σ H R
theorem ui {C : Cc} {X : Cx} (h : CxIs C X) (tg iter : Expr) : PI X tg iter (UI C tg iter) := ⟨fun pins s σ H R I q => let ⟨_, p, q⟩ := q; (p X h).run pins s σ H R I q⟩
def EI (C : Cc) (tg iter : Expr) (E : List O) (M : Mem) (n : Nat) (it : Nat → O) (M1 : Mem) (inv : Mem → Prop) : Prop :=
  ∀ (I H : Hp) (adr : List Addr) (σ : L2.St) (R : It → Hp → Prop), Stt I H adr σ E M → (∀ J I1 H1 adr1, Stt I1 H1 adr1 σ E M1 → Grow I H adr I1 H1 adr1 → Runs J I1 H1 adr1 n it inv → R J H1) → UI C tg iter σ H R
abbrev tt : Mem → Prop := fun _ => True
def atO (ds : List D) (i : Nat) : O := .dat (ds.getD i .non)
theorem atO_get {ds : List D} {i : Nat} (h : i < ds.length) : ds[i]? = some (ds.getD i .non) := by
  rw [List.getD_eq_getElem?_getD, List.getElem?_eq_getElem h]
  rfl
theorem sql_uniq {K : PySem.W.Frag} {H : Hp} {p : Addr} {xs : List V} (h : H p = some (.lst xs)) : SqL K H p xs := .inl (.inl h)
theorem sqt_uniq {K : PySem.W.Frag} {H : Hp} {p : Addr} {xs : List V} (h : H p = some (.tup xs)) : SqT K H p xs := .inl (.inl h)
theorem EI.lst {ds : List D} (h : EV C iter E M (.dat (.lst ds)) M1) : EI C tg iter E M ds.length (atO ds) M1 tt := fun I H adr σ R s q =>
  ⟨iList C.g.K (UE C iter), fun X hX => by
    have := pi_list (tg := tg) (ue hX iter)
    rw [hX.K] at this
    exact this, h I H adr σ _ s fun v I1 H1 adr1 s1 g1 v1 => by
      cases (show Rep I1 (.lst ds) v from v1) with
      | @lst p xs _ hp hr =>
        refine ⟨p, rfl, ⟨xs, sql_uniq (s1.ex _ _ hp)⟩, q _ I1 H1 adr1 s1 g1 fun I2 H2 adr2 σ2 E2 M2 s2 g2 _ => ?_⟩
        have h2 : I2 p = some (.lst xs) := g2.ex _ _ hp
        have h3 : H2 p = some (.lst xs) := s2.ex _ _ h2
        refine ⟨⟨xs, sql_uniq h3, by rw [hr.length]; exact Nat.le_refl _⟩, fun i hi => ?_⟩
        obtain ⟨x, hx, hrx⟩ := hr.get (atO_get hi)
        refine ⟨⟨xs, x, sql_uniq h3, hx⟩, fun y H3 hy => ?_⟩
        obtain ⟨rfl, hy⟩ := hy
        have e : y = x := Option.some.inj ((hy xs (sql_uniq h3)).symm.trans hx)
        subst e
        exact ⟨I2, s2, Grow.refl, hrx.mono g2.ex⟩⟩
theorem EI.tup {ds : List D} (h : EV C iter E M (.dat (.tup ds)) M1) : EI C tg iter E M ds.length (atO ds) M1 tt := fun I H adr σ R s q =>
  ⟨iTup C.g.K (UE C iter), fun X hX => by
    have := pi_tup (tg := tg) (ue hX iter)
    rw [hX.K] at this
    exact this, h I H adr σ _ s fun v I1 H1 adr1 s1 g1 v1 => by
      cases (show Rep I1 (.tup ds) v from v1) with
      | @tup p xs _ hp hr =>
        refine ⟨p, rfl, ⟨xs, sqt_uniq (s1.ex _ _ hp)⟩, q _ I1 H1 adr1 s1 g1 fun I2 H2 adr2 σ2 E2 M2 s2 g2 _ => ?_⟩
        have h2 : I2 p = some (.tup xs) := g2.ex _ _ hp
        have h3 : H2 p = some (.tup xs) := s2.ex _ _ h2
        refine ⟨⟨xs, sqt_uniq h3, by rw [hr.length]; exact Nat.le_refl _⟩, fun i hi => ?_⟩
        obtain ⟨x, hx, hrx⟩ := hr.get (atO_get hi)
        refine ⟨⟨xs, x, sqt_uniq h3, hx⟩, fun y H3 hy => ?_⟩
        obtain ⟨rfl, hy⟩ := hy
        have e : y = x := Option.some.inj ((hy xs (sqt_uniq h3)).symm.trans hx)
        subst e
        exact ⟨I2, s2, Grow.refl, hrx.mono g2.ex⟩⟩
theorem EI.seq {ds : List D} (h : EV C iter E M (.dat d) M1) (hd : seqD d = some ds) : EI C tg iter E M ds.length (atO ds) M1 tt := by
  cases d <;> first | (cases hd; exact EI.tup h) | (cases hd; exact EI.lst h) | cases hd
/-- over a cell that the body leaves as it is -/
theorem EI.cell {n : Nat} {ps : List O} (h : EV C iter E M (.adr n) M1) (hm : M1[n]? = some (some ps)) : EI C tg iter E M ps.length (fun i => ps.getD i .no) M1 (fun M' => M'[n]? = some (some ps)) := fun I H adr σ R s q =>
  ⟨iList C.g.K (UE C iter), fun X hX => by
    have := pi_list (tg := tg) (ue hX iter)
    rw [hX.K] at this
    exact this, h I H adr σ _ s fun v I1 H1 adr1 s1 g1 v1 => by
      obtain ⟨p, hp, rfl⟩ := v1
      obtain ⟨_, xs, h2, h3⟩ := s1.sto.cell n p ps hp hm
      refine ⟨p, rfl, ⟨xs, sql_uniq h2⟩, q _ I1 H1 adr1 s1 g1 fun I2 H2 adr2 σ2 E2 M2 s2 g2 hinv => ?_⟩
      obtain ⟨_, ys, h4, h5⟩ := s2.sto.cell n p ps (g2.get hp) hinv
      refine ⟨⟨ys, sql_uniq h4, by rw [h5.length]; exact Nat.le_refl _⟩, fun i hi => ?_⟩
      have hget : ps[i]? = some (ps.getD i .no) := by
        rw [List.getD_eq_getElem?_getD, List.getElem?_eq_getElem hi]
        rfl
      obtain ⟨x, hx, hrx⟩ := h5.get hget
      refine ⟨⟨ys, x, sql_uniq h4, hx⟩, fun y H3 hy => ?_⟩
      obtain ⟨rfl, hy⟩ := hy
      have e : y = x := Option.some.inj ((hy ys (sql_uniq h4)).symm.trans hx)
      subst e
      exact ⟨I2, s2, Grow.refl, hrx⟩⟩
def atI0 (lo : Int) (i : Nat) : O := .dat (.int (lo + i))
theorem EI.rng1 {x : Str} (h : EV C a E M (.dat (.int j)) M1) (hm : Bt C.g "range") (hj : -(2 ^ 62) ≤ j ∧ j < 2 ^ 62) (hx : x = "range" := by rfl) (hg : C.sc.names.lookup x = some .globalImplicit := by rfl)
    (hs : ∀ env, starEach [a] env = [(false, eval a env)] := by intro _; rfl) : EI C tg (.Call (.Name x p) [a] [] pos) E M j.toNat (atI0 0) M1 tt := fun I H adr σ R s q => by
  subst hx
  refine ⟨iRng1 (tCons (UE C a) tNil), fun X hX => pi_range1 (by show X.env.scope.names.lookup _ = _; rw [hX.sc]; exact hg) (by rw [hX.mg]; exact hm) (pa_cons (ue hX a) pa_nil (hs X.env)) (hs X.env), ?_⟩
  refine h I H adr σ _ s fun v I1 H1 adr1 s1 g1 v1 => ?_
  cases rep_int v1
  refine ⟨j, rfl, hj.1, hj.2, q _ I1 H1 adr1 s1 g1 fun I2 H2 adr2 σ2 E2 M2 s2 g2 _ => ⟨Nat.le_refl _, fun i hi => ⟨hi, fun y H3 hy => ?_⟩⟩⟩
  obtain ⟨rfl, rfl⟩ := hy
  exact ⟨I2, s2, Grow.refl, .int _⟩
theorem EI.rng2 {x : Str} (h : EV C a E M (.dat (.int i)) M1) (h' : EV C b E M1 (.dat (.int j)) M2) (hm : Bt C.g "range") (hi : -(2 ^ 62) ≤ i ∧ i < 2 ^ 62) (hj : -(2 ^ 62) ≤ j ∧ j < 2 ^ 62) (hx : x = "range" := by rfl) (hg : C.sc.names.lookup x = some .globalImplicit := by rfl)
    (hs : ∀ env, starEach [a, b] env = [(false, eval a env), (false, eval b env)] := by intro _; rfl) (hs2 : ∀ env, starEach [b] env = [(false, eval b env)] := by intro _; rfl) : EI C tg (.Call (.Name x p) [a, b] [] pos) E M (j - i).toNat (atI0 i) M2 tt := fun I H adr σ R s q => by
  subst hx
  refine ⟨iRng2 (tCons (UE C a) (tCons (UE C b) tNil)), fun X hX => pi_range2 (by show X.env.scope.names.lookup _ = _; rw [hX.sc]; exact hg) (by rw [hX.mg]; exact hm) (pa_cons (ue hX a) (pa_cons (ue hX b) pa_nil (hs2 X.env)) (by rw [hs X.env, hs2 X.env])) (hs X.env) (hs2 X.env), ?_⟩
  refine h I H adr σ _ s fun v I1 H1 adr1 s1 g1 v1 => h' I1 H1 adr1 σ _ s1 fun w I2 H2 adr2 s2 g2 w2 => ?_
  cases rep_int v1
  cases rep_int w2
  refine ⟨i, j, rfl, ⟨hi.1, hi.2, hj.1, hj.2⟩, q _ I2 H2 adr2 s2 (g1.trans g2) fun I3 H3 adr3 σ3 E3 M3 s3 g3 _ => ⟨Nat.le_refl _, fun n hn => ⟨hn, fun y H4 hy => ?_⟩⟩⟩
  obtain ⟨rfl, rfl⟩ := hy
  exact ⟨I3, s3, Grow.refl, .int _⟩
def atZ (ds es : List D) (i : Nat) : O := .dat (.tup [ds.getD i .non, es.getD i .non])
theorem EI.zip {ds es : List D} {x : Str} {elts : List Expr} {kk : Nat} {tp : Pos} (h1 : EV C a E M (.dat d1) M1) (h2 : EV C b E M1 (.dat d2) M2) (hd : (d1 = .tup ds ∧ d2 = .tup es) ∨ (d1 = .lst ds ∧ d2 = .lst es)) (hm : Bt C.g "zip") (hx : x = "zip" := by rfl) (hg : C.sc.names.lookup x = some .globalImplicit := by rfl)
    (hs : ∀ env, starEach [a, b] env = (false, eval a env) :: starEach [b] env := by intro _; rfl) (hs2 : ∀ env, starEach [b] env = (false, eval b env) :: starEach [] env := by intro _; rfl) (hpl : ∀ env, (backTo pos (starEach [b] env)).any (·.1) = false := by intro _; rfl) :
    EI C (.Tuple elts kk tp) (.Call (.Name x p) [a, b] [] pos) E M (min ds.length es.length) (atZ ds es) M2 tt := fun I H adr σ R s q => by
  subst hx
  refine ⟨RZ.iZipA C.g.K (tCons (UE C a) (tCons (UE C b) tNil)), fun X hX => by
    have := RZ.pi_zipA (tpos := tp) (elts := elts) (kk := kk) (p := p) (pos := pos) (X := X) (by show X.env.scope.names.lookup _ = _; rw [hX.sc]; exact hg) (by rw [hX.mg]; exact hm) (pa_cons (ue hX a) (pa_cons (ue hX b) pa_nil (hs2 X.env)) (hs X.env)) (hs X.env) (hpl X.env)
    rw [hX.K] at this
    exact this, ?_⟩
  refine h1 I H adr σ _ s fun v I1 H1 adr1 s1 g1 v1 => h2 I1 H1 adr1 σ _ s1 fun w I2 H2 adr2 s2 g2 w2 => ?_
  have v2 := v1.mono g2
  have turn : ∀ {xs ys : List V} {I3 H3 : Hp} {adr3 : List Addr} {σ3 : L2.St} {E3 : List O} {M3 : Mem} (hr : Reps I2 ds xs) (hr' : Reps I2 es ys) (s3 : Stt I3 H3 adr3 σ3 E3 M3) (g3 : Grow I2 H2 adr2 I3 H3 adr3) (n : Nat) (hn : n < min ds.length es.length) (T : Addr) (hT : H3 T = none) (x y : V) (hx : xs[n]? = some x) (hy : ys[n]? = some y),
      ∃ I4, Stt I4 (upd H3 T (.tup [x, y])) adr3 σ3 E3 M3 ∧ Grow I3 H3 adr3 I4 (upd H3 T (.tup [x, y])) adr3 ∧ Vo I4 adr3 (atZ ds es n) (.ref T) := fun {xs ys I3 H3 adr3 σ3 E3 M3} hr hr' s3 g3 n hn T hT x y hx hy => by
    obtain ⟨x', ex, rx⟩ := hr.get (atO_get (show n < ds.length by omega))
    obtain ⟨y', ey, ry⟩ := hr'.get (atO_get (show n < es.length by omega))
    have e1 : x' = x := Option.some.inj (ex.symm.trans hx)
    have e2 : y' = y := Option.some.inj (ey.symm.trans hy)
    subst e1 e2
    obtain ⟨s4, g4, r4⟩ := s3.tup hT (.cons (rx.mono g3.ex) (.cons (ry.mono g3.ex) .nil))
    exact ⟨_, s4, g4, r4⟩
  rcases hd with ⟨rfl, rfl⟩ | ⟨rfl, rfl⟩
  · cases (show Rep I2 (.tup ds) v from v2) with
    | @tup p1 xs _ hp hr =>
      cases (show Rep I2 (.tup es) w from w2) with
      | @tup p2 ys _ hp' hr' =>
        refine ⟨p1, p2, xs, ys, rfl, .inr ⟨sqt_uniq (s2.ex _ _ hp), sqt_uniq (s2.ex _ _ hp'), q _ I2 H2 adr2 s2 (g1.trans g2) fun I3 H3 adr3 σ3 E3 M3 s3 g3 _ => ?_⟩⟩
        have a1 : SqT C.g.K H3 p1 xs := sqt_uniq (s3.ex _ _ (g3.ex _ _ hp))
        have a2 : SqT C.g.K H3 p2 ys := sqt_uniq (s3.ex _ _ (g3.ex _ _ hp'))
        have l1 := hr.length
        have l2 := hr'.length
        refine ⟨⟨xs, ys, a1, a2, by omega⟩, fun n hn => ?_⟩
        have b1 : xs[n]? = some (xs[n]'(by omega)) := List.getElem?_eq_getElem _
        have b2 : ys[n]? = some (ys[n]'(by omega)) := List.getElem?_eq_getElem _
        refine ⟨⟨xs, ys, _, _, a1, a2, b1, b2⟩, fun z H4 hz => ?_⟩
        obtain ⟨T, x, y, rfl, hT, rfl, f1, f2⟩ := hz
        exact turn hr hr' s3 g3 n hn T hT x y (f1 _ a1) (f2 _ a2)
  · cases (show Rep I2 (.lst ds) v from v2) with
    | @lst p1 xs _ hp hr =>
      cases (show Rep I2 (.lst es) w from w2) with
      | @lst p2 ys _ hp' hr' =>
        refine ⟨p1, p2, xs, ys, rfl, .inl ⟨sql_uniq (s2.ex _ _ hp), sql_uniq (s2.ex _ _ hp'), q _ I2 H2 adr2 s2 (g1.trans g2) fun I3 H3 adr3 σ3 E3 M3 s3 g3 _ => ?_⟩⟩
        have a1 : SqL C.g.K H3 p1 xs := sql_uniq (s3.ex _ _ (g3.ex _ _ hp))
        have a2 : SqL C.g.K H3 p2 ys := sql_uniq (s3.ex _ _ (g3.ex _ _ hp'))
        have l1 := hr.length
        have l2 := hr'.length
        refine ⟨⟨xs, ys, a1, a2, by omega⟩, fun n hn => ?_⟩
        have b1 : xs[n]? = some (xs[n]'(by omega)) := List.getElem?_eq_getElem _
        have b2 : ys[n]? = some (ys[n]'(by omega)) := List.getElem?_eq_getElem _
        refine ⟨⟨xs, ys, _, _, a1, a2, b1, b2⟩, fun z H4 hz => ?_⟩
        obtain ⟨T, x, y, rfl, hT, rfl, f1, f2⟩ := hz
        exact turn hr hr' s3 g3 n hn T hT x y (f1 _ a1) (f2 _ a2)

/-! ### for -/
theorem ST.for {E_ : Nat → List O} {M_ : Nat → Mem} {n m : Nat} {it : Nat → O} {inv : Mem → Prop} (hs : EI C tg iter E M n it M1 inv) (hE : Fg E (E_ 0)) (hM : M_ 0 = M1) (hm : m ≤ n) (hinv : ∀ i, i ≤ m → inv (M_ i))
    (step : ∀ i, i < m → ∃ E1 Ma E2, EG C tg (it i) (E_ i) (M_ i) E1 Ma ∧ Fg E2 (E_ (i + 1)) ∧ (SB C body E1 Ma (.nx E2 (M_ (i + 1))) ∨ SB C body E1 Ma (.ct E2 (M_ (i + 1)))))
    (last : (m = n ∧ r = .nx (E_ n) (M_ n)) ∨ (m < n ∧ ∃ E1 Ma, EG C tg (it m) (E_ m) (M_ m) E1 Ma ∧ ((∃ o M', SB C body E1 Ma (.rt o M') ∧ r = .rt o M') ∨ ∃ E' M', SB C body E1 Ma (.bk E' M') ∧ r = .nx E' M')))
    (hf : ∀ env x, foldedSetIterable iter env x = pure x := by intro _ _; rfl) : ST C (.For tg iter body [] pos) E M r := by
  subst hM
  refine ST.mk (fun X hX => ps_for (by rw [hX.nox]; exact PassesOwn.never) hX.calm (ui hX tg iter) (ug hX tg) (ub hX body) (hf X.env)) fun I H adr σ D s q => ?_
  refine hs I H adr σ _ s fun J I1 H1 adr1 s1 g1 hr => ?_
  refine ⟨fun i μ σ' H' => i ≤ m ∧ μ = n - i ∧ ∃ I2 adr2, Stt I2 H' adr2 σ' (E_ i) (M_ i) ∧ Grow I1 H1 adr1 I2 H' adr2, ⟨n, Nat.zero_le _, by omega, I1, adr1, s1.forget hE, Grow.refl⟩, ?_⟩
  rintro i μ σ' H' ⟨hi, rfl, I2, adr2, s2, g2⟩
  obtain ⟨st, go⟩ := hr I2 H' adr2 σ' (E_ i) (M_ i) s2 g2 (hinv i hi)
  by_cases him : i < m
  · obtain ⟨Ea, Ma, Eb, hg, hfg, hb⟩ := step i him
    obtain ⟨g0, gy⟩ := go i (by omega)
    refine .inr ⟨g0, fun σ'' H'' => ∃ I3 adr3, Stt I3 H'' adr3 σ'' (E_ (i + 1)) (M_ (i + 1)) ∧ Grow I1 H1 adr1 I3 H'' adr3, fun σ'' H'' hN => ⟨n - (i + 1), by omega, by omega, rfl, hN⟩, fun x H3 hy => ?_⟩
    obtain ⟨I3, s3, g3, v3⟩ := gy x H3 hy
    refine hg I3 H3 adr2 σ' x _ s3 v3 fun I4 H4 adr4 σ4 s4 g4 => ?_
    rcases hb with hb | hb
    · exact hb I4 H4 adr4 σ4 _ s4 fun I5 H5 adr5 σ5 s5 g5 => ⟨I5, adr5, s5.forget hfg, ((g2.trans g3).trans g4).trans g5⟩
    · exact hb I4 H4 adr4 σ4 _ s4 fun I5 H5 adr5 σ5 s5 g5 => ⟨I5, adr5, s5.forget hfg, ((g2.trans g3).trans g4).trans g5⟩
  · have e : i = m := by omega
    subst e
    rcases last with ⟨hn, hr'⟩ | ⟨hn, Ea, Ma, hg, hb⟩
    · subst hn hr'
      exact .inl ⟨st, q I2 H' adr2 σ' s2 (g1.trans g2)⟩
    · obtain ⟨g0, gy⟩ := go i hn
      refine .inr ⟨g0, fun _ _ => False, fun _ _ h => h.elim, fun x H3 hy => ?_⟩
      obtain ⟨I3, s3, g3, v3⟩ := gy x H3 hy
      refine hg I3 H3 adr2 σ' x _ s3 v3 fun I4 H4 adr4 σ4 s4 g4 => ?_
      rcases hb with ⟨o, M', hb, hr'⟩ | ⟨E', M', hb, hr'⟩
      · subst hr'
        exact hb I4 H4 adr4 σ4 _ s4 fun v I5 H5 adr5 s5 g5 v5 => q v I5 H5 adr5 s5 ((((g1.trans g2).trans g3).trans g4).trans g5) v5
      · subst hr'
        exact hb I4 H4 adr4 σ4 _ s4 fun I5 H5 adr5 σ5 s5 g5 => q I5 H5 adr5 σ5 s5 ((((g1.trans g2).trans g3).trans g4).trans g5)
/-- a loop that goes through, its target one name -/
theorem ST.forN (jx : Nat) {x : Str} {E_ : Nat → List O} {M_ : Nat → Mem} {n : Nat} {it : Nat → O} {inv : Mem → Prop} (hs : EI C (.Name x p) iter E M n it M1 inv) (hE : Fg E (E_ 0)) (hM : M_ 0 = M1) (hinv : ∀ i, i ≤ n → inv (M_ i)) (nd : C.N.Nodup)
    (step : ∀ i, i < n → ∃ E2, Fg E2 (E_ (i + 1)) ∧ SB C body ((E_ i).set jx (it i)) (M_ i) (.nx E2 (M_ (i + 1))))
    (hi : C.N[jx]? = some x := by rfl) (hx : Loc C.sc x := by first | exact Or.inl rfl | exact Or.inr rfl) (hf' : C.fn x = true ∨ C.sc.names.lookup x = some .local := by first | exact .inl rfl | exact .inr rfl) (hf : ∀ env x, foldedSetIterable iter env x = pure x := by intro _ _; rfl) : ST C (.For (.Name x p) iter body [] pos) E M (.nx (E_ n) (M_ n)) :=
  ST.for hs hE hM (Nat.le_refl n) hinv (fun i h => let ⟨E2, a, b⟩ := step i h; ⟨_, _, E2, EG.nm jx nd hi hx hf', a, .inl b⟩) (.inl ⟨rfl, rfl⟩) hf

/-! ### while -/
theorem ST.while {E_ : Nat → List O} {M_ : Nat → Mem} {m : Nat} (hE : Fg E (E_ 0)) (hM : M_ 0 = M) (step : ∀ i, i < m → ∃ M1 E2, ET C c (E_ i) (M_ i) true M1 ∧ Fg E2 (E_ (i + 1)) ∧ SB C body (E_ i) M1 (.nx E2 (M_ (i + 1))))
    (last : ET C c (E_ m) (M_ m) false M') : ST C (.While c body [] pos) E M (.nx (E_ m) M') := by
  subst hM
  refine ST.mk (fun X hX => ps_while (by rw [hX.nox]; exact PassesOwn.never) (ut hX c) (ub hX body)) fun I H adr σ D s q => ?_
  refine ⟨fun μ σ' H' => ∃ i, i ≤ m ∧ μ = m - i ∧ ∃ I2 adr2, Stt I2 H' adr2 σ' (E_ i) (M_ i) ∧ Grow I H adr I2 H' adr2, ⟨m, 0, Nat.zero_le _, by omega, I, adr, s.forget hE, Grow.refl⟩, ?_⟩
  rintro μ σ' H' ⟨i, hi, rfl, I2, adr2, s2, g2⟩
  by_cases him : i < m
  · obtain ⟨M1, E2, hc, hfg, hb⟩ := step i him
    refine hc I2 H' adr2 σ' _ s2 fun I3 H3 adr3 s3 g3 => ?_
    refine ⟨fun σ'' H'' => ∃ I4 adr4, Stt I4 H'' adr4 σ'' (E_ (i + 1)) (M_ (i + 1)) ∧ Grow I H adr I4 H'' adr4, fun σ'' H'' hN => ⟨m - (i + 1), by omega, i + 1, by omega, rfl, hN⟩, ?_⟩
    exact hb I3 H3 adr3 σ' _ s3 fun I5 H5 adr5 σ5 s5 g5 => ⟨I5, adr5, s5.forget hfg, (g2.trans g3).trans g5⟩
  · have e : i = m := by omega
    subst e
    refine last I2 H' adr2 σ' _ s2 fun I3 H3 adr3 s3 g3 => ?_
    exact q I3 H3 adr3 σ' s3 (g2.trans g3)
end
end Ab
/-! Ab: comprehensions, methods, calls. -/
namespace Ab
open PySem PySem.Spec PyProof.Rows L2

def Cc.blk (C : Cc) (scope : Scope) : Cc := { C with sc := relS scope C.sc, fn := fun x => scope.names.lookup x == some .cell }
theorem cx_blk {C : Cc} {X : Cx} (h : CxIs C X) (s : Shared) (H : Hp) (scope : Scope) (A : Addr) (cl : List (Str × Addr)) (fp : List Addr) : CxIs (C.blk scope) (X.blk s H scope (compEnvC scope cl A X.env) fp) where
  P := h.P
  w := h.w
  K := h.K
  mg := h.mg
  base := h.base
  N := h.N
  sc := by
    show relS scope X.env.scope = relS scope C.sc
    rw [h.sc]
  calm := h.calm
  room := h.room
  nox := rfl
  fn := fun x q => q

/-! ### own slots -/
def wipeE (E : List O) : List Nat → List O
  | [] => E
  | v :: vs => (wipeE E vs).set v .no
theorem wipe_get (σ : L2.St) : ∀ (vs : List Nat) (i : Nat), i ∉ vs → (wipe σ vs)[i]? = σ[i]?
  | [], _, _ => rfl
  | v :: vs, i, h => by
    unfold wipe
    rw [List.getElem?_set_ne (fun z => h (by rw [z]; exact List.mem_cons_self))]
    exact wipe_get σ vs i fun z => h (List.mem_cons_of_mem _ z)
theorem wipe_in (σ : L2.St) : ∀ (vs : List Nat) (i : Nat), i ∈ vs → i < σ.length → (wipe σ vs)[i]? = some none
  | [], _, h, _ => by simp at h
  | v :: vs, i, h, hl => by
    unfold wipe
    by_cases e : v = i
    · subst e
      rw [List.getElem?_set_self (by rw [wipe_length]; exact hl)]
    · rw [List.getElem?_set_ne e]
      refine wipe_in σ vs i ?_ hl
      rcases List.mem_cons.mp h with z | z
      · exact absurd z.symm e
      · exact z
theorem wipe_eq {σ σ' : L2.St} {vs : List Nat} (hl : σ'.length = σ.length) (h : ∀ (i : Nat), i ∉ vs → σ'[i]? = σ[i]?) : wipe σ' vs = wipe σ vs := by
  refine List.ext_getElem? fun i => ?_
  by_cases hi : i ∈ vs
  · by_cases hb : i < σ.length
    · rw [wipe_in σ vs i hi hb, wipe_in σ' vs i hi (by rw [hl]; exact hb)]
    · rw [List.getElem?_eq_none (by rw [wipe_length, hl]; exact Nat.le_of_not_lt hb), List.getElem?_eq_none (by rw [wipe_length]; exact Nat.le_of_not_lt hb)]
  · rw [wipe_get _ _ _ hi, wipe_get _ _ _ hi]
    exact h i hi
theorem wipeE_length (E : List O) : ∀ vs : List Nat, (wipeE E vs).length = E.length
  | [] => rfl
  | v :: vs => by unfold wipeE; rw [List.length_set, wipeE_length E vs]
theorem wipeE_get (E : List O) : ∀ (vs : List Nat) (i : Nat) (o : O), (wipeE E vs)[i]? = some o → o = .no ∨ (i ∉ vs ∧ E[i]? = some o)
  | [], _, _, h => .inr ⟨by simp, h⟩
  | v :: vs, i, o, h => by
    unfold wipeE at h
    by_cases e : v = i
    · subst e
      by_cases hb : v < (wipeE E vs).length
      · rw [List.getElem?_set_self hb] at h
        exact .inl (Option.some.inj h).symm
      · rw [List.getElem?_eq_none (by rw [List.length_set]; exact Nat.le_of_not_lt hb)] at h
        cases h
    · rw [List.getElem?_set_ne e] at h
      rcases wipeE_get E vs i o h with z | ⟨z1, z2⟩
      · exact .inl z
      · exact .inr ⟨fun q => (List.mem_cons.mp q).elim (fun q => e q.symm) z1, z2⟩
theorem Stt.wipe {I H : Hp} {adr : List Addr} {σ : L2.St} {E : List O} {M : Mem} (s : Stt I H adr σ E M) (vs : List Nat) : Stt I H adr (wipe σ vs) (wipeE E vs) M :=
  ⟨s.ex, s.sto, by rw [wipeE_length, wipe_length]; exact s.len, fun i o ov h1 h2 => by
    rcases wipeE_get E vs i o h1 with e | ⟨hi, e⟩
    · subst e
      cases ov with
      | none => rfl
      | some v => exact True.intro
    · rw [wipe_get σ vs i hi] at h2
      exact s.slot i o ov e h2⟩

/-- a target that turns the slots vs alone -/
def EGv (C : Cc) (vs : List Nat) (tg : Expr) (o : O) (E : List O) (M : Mem) (E' : List O) (M' : Mem) : Prop :=
  ∀ (I H : Hp) (adr : List Addr) (σ : L2.St) (v : V) (Q : L2.St → Hp → Prop), Stt I H adr σ E M → Vo I adr o v → (∀ I' H' adr' σ', Stt I' H' adr' σ' E' M' → Grow I H adr I' H' adr' → σ'.length = σ.length → (∀ (i : Nat), i ∉ vs → σ'[i]? = σ[i]?) → Q σ' H') → UG C tg v σ H Q
def EGvs (C : Cc) (vs : List Nat) (tgs : List Expr) (os : List O) (E : List O) (M : Mem) (E' : List O) (M' : Mem) : Prop :=
  ∀ (I H : Hp) (adr : List Addr) (σ : L2.St) (xs : List V) (Q : L2.St → Hp → Prop), Stt I H adr σ E M → Vs I adr os xs → (∀ I' H' adr' σ', Stt I' H' adr' σ' E' M' → Grow I H adr I' H' adr' → σ'.length = σ.length → (∀ (i : Nat), i ∉ vs → σ'[i]? = σ[i]?) → Q σ' H') → UGs C tgs xs σ H Q
def UP (C : Cc) (ifs : List Expr) : TT := fun σ H Q => ∃ t : TT, (∀ X, CxIs C X → PTs X ifs t) ∧ t σ H Q
theorem up {C : Cc} {X : Cx} (h : CxIs C X) (ifs : List Expr) : PTs X ifs (UP C ifs) := ⟨fun pins s σ H Q I q => let ⟨_, p, q⟩ := q; (p X h).run pins s σ H Q I q⟩
def EP (C : Cc) (ifs : List Expr) (E : List O) (M : Mem) (b : Bool) (M' : Mem) : Prop := Et (UP C ifs) E M b M'

section
variable {C : Cc} {E E1 E2 E' : List O} {M M1 M2 M3 M' : Mem} {o o1 o2 o3 : O} {os : List O} {e a b c tg iter elt : Expr} {es : List Expr} {pos pos' p : Pos} {d d1 d2 : D} {i j : Int} {k k' : Bool} {r : Out} {body : List Stmt} {vs : List Nat}
theorem EGv.nm (i : Nat) {x : Str} (nd : C.N.Nodup) (hv : i ∈ vs) (hi : C.N[i]? = some x := by rfl) (hx : Loc C.sc x := by first | exact Or.inl rfl | exact Or.inr rfl) (hf : C.fn x = true ∨ C.sc.names.lookup x = some .local := by first | exact .inl rfl | exact .inr rfl) : EGv C vs (.Name x pos) o E M (E.set i o) M :=
  fun I H adr σ v Q s hw q => ⟨gName i, fun X hX => pg_name (by rw [hX.N]; exact nd) (by rw [hX.N]; exact hi) (by rw [hX.sc]; exact hx) (hf.elim (fun z => .inl (hX.fn x z)) (fun z => .inr (by rw [hX.sc]; exact z))),
    q I H adr _ (s.set hw) Grow.refl (List.length_set) fun j hj => List.getElem?_set_ne fun z => hj (by rw [← z]; exact hv)⟩
theorem EGvs.nil : EGvs C vs [] [] E M E M := fun I H adr σ xs Q s hv q => by
  cases hv
  exact ⟨gNil, fun _ _ => pgs_nil, rfl, q I H adr σ s Grow.refl rfl fun _ _ => rfl⟩
theorem EGvs.cons (h : EGv C vs a o E M E1 M1) (hr : EGvs C vs es os E1 M1 E' M') (hs : ∀ env, (assignEach (a :: es) env).map (·.2) = assign a env :: (assignEach es env).map (·.2) := by intro _; rfl) : EGvs C vs (a :: es) (o :: os) E M E' M' :=
  fun I H adr σ xs Q s hv q => by
    cases hv with
    | @cons _ v _ xs hv hr' =>
      refine ⟨gCons (UG C a) (UGs C es), fun X hX => pgs_cons (ug hX a) (ugs hX es) (hs X.env), v, xs, rfl, ?_⟩
      exact h I H adr σ v _ s hv fun I1 H1 adr1 σ1 s1 g1 l1 f1 => hr I1 H1 adr1 σ1 xs Q s1 (Vs.mono g1 hr') fun I2 H2 adr2 σ2 s2 g2 l2 f2 => q I2 H2 adr2 σ2 s2 (g1.trans g2) (l2.trans l1) fun i hi => (f2 i hi).trans (f1 i hi)
theorem EGv.tup {ds : List D} {kk : Nat} (h : EGvs C vs es (ds.map .dat) E M E' M') (hn : ∀ env, (assignEach es env).length = ds.length := by intro _; rfl) (hst : ∀ env, (assignEach es env).findIdx? (·.1) = none := by intro _; rfl) : EGv C vs (.Tuple es kk pos) (.dat (.tup ds)) E M E' M' :=
  fun I H adr σ v Q s hv q => by
    cases (show Rep I (.tup ds) v from hv) with
    | @tup p xs _ hp hr =>
      refine ⟨gTup C.g.K ds.length (UGs C es), fun X hX => by
        have := pg_tup (pos := pos) (k := kk) hX.calm (ugs hX es) (hn X.env) (hst X.env)
        rw [hX.K] at this
        exact this, p, xs, rfl, .inl (.inl (s.ex _ _ hp)), hr.length.symm, ?_⟩
      exact h I H adr σ xs Q s (Vs.reps hr) q
theorem EP.nil : EP C [] E M true M := fun I H adr σ Q s q => ⟨tYes, fun _ _ => pts_nil, q I H adr s Grow.refl⟩
theorem EP.one (h : ET C c E M k M') : EP C [c] E M k M' := fun I H adr σ Q s q => ⟨UT C c, fun X hX => pts_one (ut hX c), h I H adr σ Q s q⟩

/-! ### comprehensions -/
structure LC (C : Cc) (elt tg iter : Expr) (ifs : List Expr) (scope : Scope) (own : List (Str × Nat)) (E : List O) (M : Mem) (o : O) (M' : Mem) : Prop where
  ok : blkC C.N C.sc scope own = true
  nd : C.N.Nodup
  hf : ∀ env x, foldedSetIterable iter env x = pure x
  run : Ev (tLc (UI C tg iter) (UG (C.blk scope) tg) (UP (C.blk scope) ifs) (UE (C.blk scope) elt) (own.map (·.2))) E M o M'
theorem LC.ev {scope : Scope} {own : List (Str × Nat)} {ifs : List Expr} (h : LC C elt tg iter ifs scope own E M o M') : EV C (.ListComp elt [⟨tg, iter, ifs, 0⟩] scope pos) E M o M' :=
  EV.mk (fun X hX => pe_lc hX.calm (by rw [hX.N]; exact h.nd) (ui hX tg iter) (by rw [hX.N, hX.sc]; exact blkOk_by h.ok) (fun s H A cl fp => ug (cx_blk hX s H scope A cl fp) tg) (fun s H A cl fp => up (cx_blk hX s H scope A cl fp) ifs) (fun s H A cl fp => ue (cx_blk hX s H scope A cl fp) elt) (h.hf X.env)) h.run
/-- a name that takes it -/
theorem LC.set (i : Nat) {scope : Scope} {own : List (Str × Nat)} {ifs : List Expr} {y : Str} {py spos : Pos} (h : LC C elt tg iter ifs scope own E M o M') (hi : C.N[i]? = some y := by rfl) (hl : C.sc.names.lookup y = some .local := by rfl)
    (hsw : ∀ env : Env, env.scope = C.sc → swapsWith (.ListComp elt [⟨tg, iter, ifs, 0⟩] scope pos) (some (.Name y py)) spos.line env = pure true) : ST C (.Assign [.Name y py] (.ListComp elt [⟨tg, iter, ifs, 0⟩] scope pos) spos) E M (.nx (E.set i o) M') :=
  ST.mk (fun X hX => ps_setLc hX.calm (by rw [hX.N]; exact h.nd) (by rw [hX.N]; exact hi) (by rw [hX.sc]; exact hl) (hsw X.env hX.sc) (ui hX tg iter) (by rw [hX.N, hX.sc]; exact blkOk_by h.ok) (fun s H A cl fp => ug (cx_blk hX s H scope A cl fp) tg) (fun s H A cl fp => up (cx_blk hX s H scope A cl fp) ifs) (fun s H A cl fp => ue (cx_blk hX s H scope A cl fp) elt) (h.hf X.env))
    fun I H adr σ D s q => h.run I H adr σ _ s fun v I1 H1 adr1 s1 g1 v1 => q I1 H1 adr1 _ (s1.set v1) g1
theorem LC.froz {scope : Scope} {own : List (Str × Nat)} {ifs : List Expr} {n : Nat} {ds : List D} (h : LC C elt tg iter ifs scope own E M (.adr n) (M' ++ [some (ds.map .dat)])) (hfr : ∀ {t : TE}, Ev t E M (.adr n) (M' ++ [some (ds.map .dat)]) → Ev t E M (.dat (.lst ds)) M') : LC C elt tg iter ifs scope own E M (.dat (.lst ds)) M' := ⟨h.ok, h.nd, h.hf, hfr h.run⟩
theorem LC.gen {scope : Scope} {own : List (Str × Nat)} {ifs : List Expr} {n : Nat} {it : Nat → O} {inv : Mem → Prop} {A : Nat → Mem} {acc : Nat → List O} (ok : blkC C.N C.sc scope own = true) (nd : C.N.Nodup) (hs : EI C tg iter E M n it M1 inv)
    (hA : A 0 = M1 ++ [some []]) (ha : acc 0 = []) (hinv : ∀ i, i ≤ n → inv (A i))
    (step : ∀ i, i < n → ∃ Ex Ma b Mb, EGv (C.blk scope) (own.map (·.2)) tg (it i) (wipeE E (own.map (·.2))) (A i) Ex Ma ∧ EP (C.blk scope) ifs Ex Ma b Mb ∧
      ((b = true ∧ ∃ o Mc, EV (C.blk scope) elt Ex Mb o Mc ∧ Mc[M1.length]? = some (some (acc i)) ∧ (acc i).length < 100000 ∧ A (i + 1) = Mc.set M1.length (some (acc i ++ [o])) ∧ acc (i + 1) = acc i ++ [o]) ∨
       (b = false ∧ A (i + 1) = Mb ∧ acc (i + 1) = acc i)))
    (hf : ∀ env x, foldedSetIterable iter env x = pure x := by intro _ _; rfl) : LC C elt tg iter ifs scope own E M (.adr M1.length) (A n) := by
  refine ⟨ok, nd, hf, fun I H adr σ Q s q => ?_⟩
  · refine hs I H adr σ _ s fun J I1 H1 adr1 s1 g1 hr Dl hD => ?_
    obtain ⟨s2, g2, atD⟩ := s1.cel hD (os := []) .nil
    rw [← hA] at s2
    refine ⟨fun i μ H' => i ≤ n ∧ μ = n - i ∧ ∃ I3 adr3, Stt I3 H' adr3 σ E (A i) ∧ Grow I1 (upd H1 Dl (.lst [])) (adr1 ++ [Dl]) I3 H' adr3, ⟨n, Nat.zero_le _, by omega, I1, _, s2, Grow.refl⟩, ?_⟩
    rintro i μ H3 ⟨hi, rfl, I3, adr3, s3, g3⟩
    obtain ⟨st, go⟩ := hr I3 H3 adr3 σ E (A i) s3 (g2.trans g3) (hinv i hi)
    by_cases him : i < n
    · obtain ⟨Ea, Ma, b, Mb, hg, hp, hb⟩ := step i him
      obtain ⟨g0, gy⟩ := go i him
      refine .inr ⟨g0, fun H'' => ∃ I4 adr4, Stt I4 H'' adr4 σ E (A (i + 1)) ∧ Grow I1 (upd H1 Dl (.lst [])) (adr1 ++ [Dl]) I4 H'' adr4, fun H'' hN => ⟨n - (i + 1), by omega, by omega, rfl, hN⟩, fun x H4 hy => ?_⟩
      obtain ⟨I4, s4, g4, v4⟩ := gy x H4 hy
      refine hg I4 H4 adr3 _ x _ (s4.wipe _) v4 fun I5 H5 adr5 σ5 s5 g5 l5 f5 => ⟨?_, ?_⟩
      · rw [wipe_eq l5 f5]
        exact wipe_eq (wipe_length _ _) fun i hi => wipe_get _ _ _ hi
      · refine hp I5 H5 adr5 σ5 _ s5 fun I6 H6 adr6 s6 g6 => ?_
        rcases hb with ⟨rfl, o, Mc, he, hc, hz, hA1, ha1⟩ | ⟨rfl, hA1, ha1⟩
        · rw [if_pos rfl]
          refine he I6 H6 adr6 σ5 _ s6 fun y I7 H7 adr7 s7 g7 y7 => ?_
          have gAll := (((g3.trans g4).trans g5).trans g6).trans g7
          have hD7 : adr7[M1.length]? = some Dl := gAll.get atD
          obtain ⟨_, xs, hx1, hx2⟩ := s7.sto.cell M1.length Dl (acc i) hD7 hc
          have hlen := hx2.length
          refine ⟨xs, hx1, by rw [← hlen]; exact sz_lt hz, ?_⟩
          obtain ⟨s8, g8⟩ := s7.wri hD7 hc (Vs.app hx2 (.cons y7 .nil))
          rw [← hA1] at s8
          exact ⟨I7, adr7, s3.mono ((((g4.trans g5).trans g6).trans g7).trans g8) s8.ex s8.sto, gAll.trans g8⟩
        · rw [if_neg Bool.false_ne_true]
          have gAll := ((g3.trans g4).trans g5).trans g6
          rw [← hA1] at s6
          exact ⟨I6, adr6, s3.mono ((g4.trans g5).trans g6) s6.ex s6.sto, gAll⟩
    · have e : i = n := by omega
      subst e
      exact .inl ⟨st, q _ I3 H3 adr3 s3 ((g1.trans g2).trans g3) ⟨Dl, g3.get atD, rfl⟩⟩

/-- no cell's content leans on newer cells -/
def OkM (M M' : Mem) : Prop := ∀ (k : Nat) (os : List O), M'[k]? = some (some os) → M[k]? = some (some os) ∨ ∃ ds : List D, os = ds.map .dat
theorem OkM.refl : OkM M M := fun _ _ h => .inl h
theorem OkM.nil : OkM M [] := fun _ _ h => by simp at h
theorem OkM.dat {c : Option (List O)} {ds : List D} (h : OkM M M') : OkM (c :: M) (some (ds.map .dat) :: M') := fun k os q => by
  cases k with
  | zero => exact .inr ⟨ds, (Option.some.inj (Option.some.inj q)).symm⟩
  | succ k => exact h k os q
theorem OkM.same {c : Option (List O)} (h : OkM M M') : OkM (c :: M) (c :: M') := fun k os q => by
  cases k with
  | zero => exact .inl q
  | succ k => exact h k os q
theorem low_vs {I : Hp} {adr adr' : List Addr} {n : Nat} (h : ∀ (k : Nat) (a : Addr), adr[k]? = some a → adr'[k]? = some a) : ∀ {os : List O} {xs : List V}, Vs I adr os xs → ∃ vs : List V, True
  | _, _, _ => ⟨[], True.intro⟩
/-- contents that are valid ahead of a growth lean on no newer cell -/
theorem vo_low {I I' : Hp} {adr adr' : List Addr} {v w : V} : ∀ {o : O}, Vo I adr o v → Vo I' adr' o w → (∀ (k : Nat) (a : Addr), adr[k]? = some a → adr'[k]? = some a) → Vo I' adr o w
  | .no, _, _, _ => True.intro
  | .dat _, _, h, _ => h
  | .scr _ _, _, h, _ => h
  | .adr k, h, h', f => by
    obtain ⟨a, h1, _⟩ := h
    obtain ⟨a', h2, h3⟩ := h'
    rw [f k a h1] at h2
    cases h2
    exact ⟨a, h1, h3⟩
theorem vs_low {I I' : Hp} {adr adr' : List Addr} (f : ∀ (k : Nat) (a : Addr), adr[k]? = some a → adr'[k]? = some a) : ∀ {os : List O} {xs ys : List V}, Vs I adr os xs → Vs I' adr' os ys → Vs I' adr os ys
  | _, _, _, .nil, .nil => .nil
  | _, _, _, .cons h r, .cons h' r' => .cons (vo_low h h' f) (vs_low f r r')
theorem Ev.froz {t : TE} {n : Nat} {ds : List D} (h : Ev t E M (.adr n) (M' ++ [some (ds.map .dat)])) (hn : n = M'.length) (hl : M.length ≤ M'.length) (ok : OkM M M') : Ev t E M (.dat (.lst ds)) M' := fun I H adr σ Q s q => by
  refine h I H adr σ Q s fun v I1 H1 adr1 s1 g1 v1 => ?_
  obtain ⟨p, hp, rfl⟩ := v1
  obtain ⟨nw, rfl, fr⟩ := g1.new
  have hlen := s1.sto.len
  rw [List.length_append, List.length_append, List.length_singleton] at hlen
  have hl0 := s.sto.len
  have hcell : (M' ++ [some (ds.map O.dat)])[n]? = some (some (ds.map .dat)) := by
    rw [hn, List.getElem?_append_right (Nat.le_refl _), Nat.sub_self]
    rfl
  obtain ⟨hi, xs, hx1, hx2⟩ := s1.sto.cell n p _ hp hcell
  have hne : nw ≠ [] := fun z => by
    subst z
    simp at hlen
    omega
  -- the last address is p
  have hnw : nw = nw.dropLast ++ [p] := by
    have e1 : (adr ++ nw)[n]? = nw[nw.length - 1]? := by
      rw [List.getElem?_append_right (by omega)]
      congr 1
      omega
    rw [hp] at e1
    have e2 : nw.getLast hne = p := by
      rw [List.getLast_eq_getElem]
      have := (List.getElem?_eq_some_iff.mp e1.symm).2
      exact this
    rw [← e2]
    exact (List.dropLast_concat_getLast hne).symm
  have hdl : (adr ++ nw) = (adr ++ nw.dropLast) ++ [p] := by
    rw [List.append_assoc, ← hnw]
  have hlen2 : (adr ++ nw.dropLast).length = M'.length := by
    rw [List.length_append, List.length_dropLast]
    have : nw.length ≠ 0 := fun z => hne (List.eq_nil_of_length_eq_zero z)
    omega
  have sub : ∀ (k : Nat) (a : Addr), (adr ++ nw.dropLast)[k]? = some a → (adr ++ nw)[k]? = some a := fun k a hk => by
    rw [hdl, List.getElem?_append_left (List.getElem?_eq_some_iff.mp hk).1]
    exact hk
  have sub0 : ∀ (k : Nat) (a : Addr), adr[k]? = some a → (adr ++ nw)[k]? = some a := fun k a hk => by
    rw [List.getElem?_append_left (List.getElem?_eq_some_iff.mp hk).1]
    exact hk
  have ndp : p ∉ adr ++ nw.dropLast := by
    have nd1 := s1.sto.nd
    rw [hdl, List.nodup_append] at nd1
    intro z
    exact nd1.2.2 p z p (by simp) rfl
  have pin : p ∈ nw := by
    rw [hnw]
    simp
  have ex1 : Ex I1 (upd I1 p (.lst xs)) := Ex.new hi
  have ex2 : Ex (upd I1 p (.lst xs)) H1 := fun a u z => by
    by_cases e : a = p
    · subst e
      rw [upd_same] at z
      cases z
      exact hx1
    · rw [upd_ne e] at z
      exact s1.ex a u z
  have g2 : Grow I H adr (upd I1 p (.lst xs)) H1 (adr ++ nw.dropLast) := by
    refine ⟨g1.ex.trans ex1, ⟨nw.dropLast, rfl, fun a ha => fr a ((List.dropLast_sublist nw).subset ha)⟩, g1.keep, g1.dom, fun a u h1 h2 h3 => ?_⟩
    have : a ≠ p := fun z => by
      rw [z, fr p pin] at h1
      cases h1
    rw [upd_ne this]
    exact g1.out a u h1 h2 h3
  have sto2 : Sto (upd I1 p (.lst xs)) H1 (adr ++ nw.dropLast) M' := by
    refine ⟨hlen2, ?_, fun k a os h1 h2 => ?_, fun k a h1 => s1.sto.dom k a (sub k a h1)⟩
    · have nd1 := s1.sto.nd
      rw [hdl, List.nodup_append] at nd1
      exact nd1.1
    · have hk : k < M'.length := (List.getElem?_eq_some_iff.mp h2).1
      have h3 : (M' ++ [some (ds.map O.dat)])[k]? = some (some os) := by
        rw [List.getElem?_append_left hk]
        exact h2
      obtain ⟨c1, ys, c2, c3⟩ := s1.sto.cell k a os (sub k a h1) h3
      have na : a ≠ p := fun z => ndp (by rw [← z]; exact List.mem_of_getElem? h1)
      refine ⟨by rw [upd_ne na]; exact c1, ys, c2, Vs.ext ex1 ?_⟩
      rcases ok k os h2 with hm | ⟨es, rfl⟩
      · have hk2 : k < adr.length := by
          rw [hl0]
          exact (List.getElem?_eq_some_iff.mp hm).1
        obtain ⟨_, zs, _, z3⟩ := s.sto.cell k adr[k] os (List.getElem?_eq_getElem hk2) hm
        exact (vs_low sub0 z3 c3).more
      · exact Vs.reps c3.to
  exact q _ _ H1 _ (s.mono g2 ex2 sto2) g2 (.lst upd_same (hx2.to.mono ex1))
end
end Ab
/-! Ab: the forms one uses. -/
namespace Ab
open PySem PySem.Spec PyProof.Rows L2
section
variable {C : Cc} {E E1 E2 E' : List O} {M M1 M2 M3 M' : Mem} {o o1 o2 o3 : O} {os : List O} {e a b c tg iter elt : Expr} {es : List Expr} {pos pos' p apos : Pos} {d d1 d2 : D} {i j : Int} {k k' : Bool} {r : Out} {body : List Stmt} {vs : List Nat} {scope : Scope} {own : List (Str × Nat)} {ifs : List Expr} {x : Str}

/-! ### comprehensions -/
theorem getE_append {α : Type} {l : List α} {x : α} : (l ++ [x])[l.length]? = some x := by
  rw [List.getElem?_append_right (Nat.le_refl _), Nat.sub_self]
  rfl
theorem set_append {α : Type} {l : List α} {x y : α} : (l ++ [x]).set l.length y = l ++ [y] := by
  rw [List.set_append_right _ _ (Nat.le_refl _), Nat.sub_self]
  rfl
/-- pure elements, the list a cell -/
theorem LC.lPC {n : Nat} {it : Nat → O} {inv : Mem → Prop} {v : Nat → D} {f : Nat → Bool} (ok : blkC C.N C.sc scope own = true) (nd : C.N.Nodup) (hs : EI C tg iter E M n it M1 inv) (hinv : ∀ c, inv (M1 ++ [c])) (hn : n < 100000)
    (step : ∀ i, i < n → ∃ Ex, (∀ M, EGv (C.blk scope) (own.map (·.2)) tg (it i) (wipeE E (own.map (·.2))) M Ex M) ∧ (∀ M, EP (C.blk scope) ifs Ex M (f i) M) ∧ (f i = true → ∀ M, EV (C.blk scope) elt Ex M (.dat (v i)) M))
    (hf : ∀ env x, foldedSetIterable iter env x = pure x := by intro _ _; rfl) : LC C elt tg iter ifs scope own E M (.adr M1.length) (M1 ++ [some ((((List.range n).filter f).map v).map .dat)]) := by
  refine LC.gen (A := fun i => M1 ++ [some ((((List.range i).filter f).map v).map .dat)]) (acc := fun i => (((List.range i).filter f).map v).map .dat) ok nd hs rfl rfl (fun i _ => hinv _) (fun i hi => ?_) hf
  obtain ⟨Ex, h1, h2, h3⟩ := step i hi
  refine ⟨Ex, _, f i, _, h1 _, h2 _, ?_⟩
  cases hb : f i with
  | true =>
    refine .inl ⟨rfl, .dat (v i), _, h3 hb _, getE_append, ?_, ?_, ?_⟩
    · rw [List.length_map, List.length_map]
      have := List.length_filter_le f (List.range i)
      rw [List.length_range] at this
      omega
    · show M1 ++ [some ((((List.range (i + 1)).filter f).map v).map O.dat)] = _
      rw [set_append, List.range_succ, List.filter_append, List.map_append, List.map_append, List.filter_cons, if_pos hb]
      rfl
    · show (((List.range (i + 1)).filter f).map v).map O.dat = _
      rw [List.range_succ, List.filter_append, List.map_append, List.map_append, List.filter_cons, if_pos hb]
      rfl
  | false =>
    have e : (((List.range (i + 1)).filter f).map v).map O.dat = (((List.range i).filter f).map v).map O.dat := by
      rw [List.range_succ, List.filter_append, List.map_append, List.map_append, List.filter_cons, if_neg (by rw [hb]; decide)]
      exact List.append_nil _
    refine .inr ⟨rfl, ?_, ?_⟩
    · show M1 ++ [some ((((List.range (i + 1)).filter f).map v).map O.dat)] = _
      rw [e]
    · exact e
theorem LC.lPF {n : Nat} {it : Nat → O} {inv : Mem → Prop} {v : Nat → D} {f : Nat → Bool} (ok : blkC C.N C.sc scope own = true) (nd : C.N.Nodup) (hs : EI C tg iter E M n it M1 inv) (hinv : ∀ c, inv (M1 ++ [c])) (hn : n < 100000) (hl : M.length ≤ M1.length) (hok : OkM M M1)
    (step : ∀ i, i < n → ∃ Ex, (∀ M, EGv (C.blk scope) (own.map (·.2)) tg (it i) (wipeE E (own.map (·.2))) M Ex M) ∧ (∀ M, EP (C.blk scope) ifs Ex M (f i) M) ∧ (f i = true → ∀ M, EV (C.blk scope) elt Ex M (.dat (v i)) M))
    (hf : ∀ env x, foldedSetIterable iter env x = pure x := by intro _ _; rfl) : LC C elt tg iter ifs scope own E M (.dat (.lst (((List.range n).filter f).map v))) M1 :=
  LC.froz (LC.lPC ok nd hs hinv hn step hf) fun h => Ev.froz h rfl hl hok
/-- elements that turn cells -/
theorem LC.lSC {n : Nat} {it : Nat → O} {inv : Mem → Prop} {v : Nat → D} {M_ : Nat → Mem} (ok : blkC C.N C.sc scope own = true) (nd : C.N.Nodup) (hs : EI C tg iter E M n it M1 inv) (h0 : M_ 0 = M1) (hlen : ∀ i, i ≤ n → (M_ i).length = M1.length) (hinv : ∀ i, i ≤ n → ∀ c, inv (M_ i ++ [c])) (hn : n < 100000)
    (step : ∀ i, i < n → ∃ Ex, (∀ M, EGv (C.blk scope) (own.map (·.2)) tg (it i) (wipeE E (own.map (·.2))) M Ex M) ∧ ∀ c, EV (C.blk scope) elt Ex (M_ i ++ [c]) (.dat (v i)) (M_ (i + 1) ++ [c]))
    (hf : ∀ env x, foldedSetIterable iter env x = pure x := by intro _ _; rfl) : LC C elt tg iter [] scope own E M (.adr M1.length) (M_ n ++ [some (((List.range n).map v).map .dat)]) := by
  refine LC.gen (A := fun i => M_ i ++ [some (((List.range i).map v).map .dat)]) (acc := fun i => ((List.range i).map v).map .dat) ok nd hs (by rw [h0]; rfl) rfl (fun i hi => hinv i hi _) (fun i hi => ?_) hf
  obtain ⟨Ex, h1, h3⟩ := step i hi
  refine ⟨Ex, _, true, _, h1 _, EP.nil, .inl ⟨rfl, .dat (v i), _, h3 _, ?_, ?_, ?_, ?_⟩⟩
  · rw [← hlen (i + 1) hi]
    exact getE_append
  · rw [List.length_map, List.length_map, List.length_range]
    omega
  · show M_ (i + 1) ++ [some (((List.range (i + 1)).map v).map O.dat)] = _
    rw [← hlen (i + 1) hi, set_append, List.range_succ, List.map_append, List.map_append]
    rfl
  · show ((List.range (i + 1)).map v).map O.dat = _
    rw [List.range_succ, List.map_append, List.map_append]
    rfl
theorem LC.lS {n : Nat} {it : Nat → O} {inv : Mem → Prop} {v : Nat → D} {M_ : Nat → Mem} (ok : blkC C.N C.sc scope own = true) (nd : C.N.Nodup) (hs : EI C tg iter E M n it M1 inv) (h0 : M_ 0 = M1) (hlen : ∀ i, i ≤ n → (M_ i).length = M1.length) (hinv : ∀ i, i ≤ n → ∀ c, inv (M_ i ++ [c])) (hn : n < 100000) (hl : M.length ≤ M1.length) (hok : OkM M (M_ n))
    (step : ∀ i, i < n → ∃ Ex, (∀ M, EGv (C.blk scope) (own.map (·.2)) tg (it i) (wipeE E (own.map (·.2))) M Ex M) ∧ ∀ c, EV (C.blk scope) elt Ex (M_ i ++ [c]) (.dat (v i)) (M_ (i + 1) ++ [c]))
    (hf : ∀ env x, foldedSetIterable iter env x = pure x := by intro _ _; rfl) : LC C elt tg iter [] scope own E M (.dat (.lst ((List.range n).map v))) (M_ n) :=
  LC.froz (LC.lSC ok nd hs h0 hlen hinv hn step hf) fun h => Ev.froz h (hlen n (Nat.le_refl n)).symm (by rw [hlen n (Nat.le_refl n)]; exact hl) hok
theorem range_getD {α : Type} (d0 : α) : ∀ (xs : List α), (List.range xs.length).map (fun i => xs.getD i d0) = xs := fun xs => by
  refine List.ext_getElem? fun i => ?_
  rw [List.getElem?_map]
  by_cases hi : i < xs.length
  · rw [List.getElem?_range hi, List.getElem?_eq_getElem hi]
    show some (xs.getD i d0) = _
    rw [List.getD_eq_getElem?_getD, List.getElem?_eq_getElem hi]
    rfl
  · rw [List.getElem?_eq_none (by rw [List.length_range]; exact Nat.le_of_not_lt hi), List.getElem?_eq_none (Nat.le_of_not_lt hi)]
    rfl
theorem atO_map {α : Type} {f : α → D} {xs : List α} {i : Nat} (h : i < xs.length) : atO (xs.map f) i = .dat (f xs[i]) := by
  unfold atO
  rw [List.getD_eq_getElem?_getD, List.getElem?_map, List.getElem?_eq_getElem h]
  rfl
/-- [elt for x in xs], xs a list or tuple of the f of some α -/
theorem LC.lM {α : Type} (jx : Nat) {xs : List α} {f g : α → D} (ok : blkC C.N C.sc scope own = true) (nd : C.N.Nodup) (ho : own.map (·.2) = [jx]) (h : EV C iter E M (.dat d) M1) (hd : seqD d = some (xs.map f)) (hl : M.length ≤ M1.length) (hok : OkM M M1) (hz : xs.length < 100000)
    (step : ∀ y ∈ xs, ∀ M, EV (C.blk scope) elt ((wipeE E [jx]).set jx (.dat (f y))) M (.dat (g y)) M) (hi : C.N[jx]? = some x := by rfl) (hx : Loc (C.blk scope).sc x := by first | exact Or.inl rfl | exact Or.inr rfl) (hf' : (C.blk scope).fn x = true ∨ (C.blk scope).sc.names.lookup x = some .local := by first | exact .inl rfl | exact .inr rfl)
    (hf : ∀ env x, foldedSetIterable iter env x = pure x := by intro _ _; rfl) : LC C elt (.Name x p) iter [] scope own E M (.dat (.lst (xs.map g))) M1 := by
  have hlen : (xs.map f).length = xs.length := List.length_map _
  have key := LC.lPF (tg := .Name x p) (elt := elt) (ifs := []) (scope := scope) (own := own) (n := (xs.map f).length) (v := fun i => (xs.map g).getD i .non) (f := fun _ => true) ok nd (EI.seq h hd) (fun _ => True.intro) (by omega) hl hok (fun i hi' => by
    rw [hlen] at hi'
    refine ⟨_, fun M => EGv.nm jx nd (by rw [ho]; simp) hi hx hf', fun M => EP.nil, fun _ M => ?_⟩
    rw [ho, atO_map hi']
    have e : (xs.map g).getD i .non = g xs[i] := by
      rw [List.getD_eq_getElem?_getD, List.getElem?_map, List.getElem?_eq_getElem hi']
      rfl
    rw [e]
    exact step _ (List.getElem_mem hi') M) hf
  have e2 : ((List.range (xs.map f).length).filter fun _ => true).map (fun i => (xs.map g).getD i D.non) = xs.map g := by
    rw [List.filter_eq_self.mpr (fun _ _ => rfl), hlen, ← List.length_map g]
    exact range_getD _ _
  rw [e2] at key
  exact key
theorem filt_getD {α β : Type} (d0 : β) (t : α → Bool) (g : α → β) : ∀ xs : List α, ((List.range xs.length).filter fun i => (xs.map t).getD i false).map (fun i => (xs.map g).getD i d0) = (xs.filter t).map g
  | [] => rfl
  | y :: r => by
    have ih := filt_getD d0 t g r
    have e3 : ((fun i => ((y :: r).map t).getD i false) ∘ Nat.succ) = fun i => (r.map t).getD i false := by
      funext i
      simp [List.getD_eq_getElem?_getD]
    have e4 : ((fun i => ((y :: r).map g).getD i d0) ∘ Nat.succ) = fun i => (r.map g).getD i d0 := by
      funext i
      simp [List.getD_eq_getElem?_getD]
    rw [List.length_cons, List.range_succ_eq_map, List.filter_cons, List.filter_map, e3]
    have e5 : ((y :: r).map t).getD 0 false = t y := by simp [List.getD_eq_getElem?_getD]
    have e6 : ((y :: r).map g).getD 0 d0 = g y := by simp [List.getD_eq_getElem?_getD]
    rw [e5, List.filter_cons]
    by_cases hy : t y = true
    · rw [if_pos hy, if_pos hy]
      simp only [List.map_cons, List.map_map]
      rw [show (fun i => (List.map g (y :: r)).getD i d0) = fun i => (List.map g (y :: r)).getD i d0 from rfl] at *
      rw [← List.map_cons (f := g), e6, e4, ih]
    · rw [if_neg hy, if_neg hy, List.map_map, e4, ih]
/-- .. with a test -/
theorem LC.lMF {α : Type} (jx : Nat) {xs : List α} {f g : α → D} {t : α → Bool} (ok : blkC C.N C.sc scope own = true) (nd : C.N.Nodup) (ho : own.map (·.2) = [jx]) (h : EV C iter E M (.dat d) M1) (hd : seqD d = some (xs.map f)) (hl : M.length ≤ M1.length) (hok : OkM M M1) (hz : xs.length < 100000)
    (ht : ∀ y ∈ xs, ∀ M, ET (C.blk scope) c ((wipeE E [jx]).set jx (.dat (f y))) M (t y) M)
    (step : ∀ y ∈ xs, t y = true → ∀ M, EV (C.blk scope) elt ((wipeE E [jx]).set jx (.dat (f y))) M (.dat (g y)) M) (hi : C.N[jx]? = some x := by rfl) (hx : Loc (C.blk scope).sc x := by first | exact Or.inl rfl | exact Or.inr rfl) (hf' : (C.blk scope).fn x = true ∨ (C.blk scope).sc.names.lookup x = some .local := by first | exact .inl rfl | exact .inr rfl)
    (hf : ∀ env x, foldedSetIterable iter env x = pure x := by intro _ _; rfl) : LC C elt (.Name x p) iter [c] scope own E M (.dat (.lst ((xs.filter t).map g))) M1 := by
  have hlen : (xs.map f).length = xs.length := List.length_map _
  have key := LC.lPF (tg := .Name x p) (elt := elt) (ifs := [c]) (scope := scope) (own := own) (n := (xs.map f).length) (v := fun i => (xs.map g).getD i .non) (f := fun i => (xs.map t).getD i false) ok nd (EI.seq h hd) (fun _ => True.intro) (by omega) hl hok (fun i hi' => by
    rw [hlen] at hi'
    have e0 : (xs.map t).getD i false = t xs[i] := by
      rw [List.getD_eq_getElem?_getD, List.getElem?_map, List.getElem?_eq_getElem hi']
      rfl
    refine ⟨_, fun M => EGv.nm jx nd (by rw [ho]; simp) hi hx hf', fun M => ?_, fun hb M => ?_⟩
    · rw [ho, atO_map hi', e0]
      exact EP.one (ht _ (List.getElem_mem hi') M)
    · rw [ho, atO_map hi']
      have e : (xs.map g).getD i .non = g xs[i] := by
        rw [List.getD_eq_getElem?_getD, List.getElem?_map, List.getElem?_eq_getElem hi']
        rfl
      rw [e]
      rw [e0] at hb
      exact step _ (List.getElem_mem hi') hb M) hf
  have e2 : ((List.range (xs.map f).length).filter fun i => (xs.map t).getD i false).map (fun i => (xs.map g).getD i D.non) = (xs.filter t).map g := by
    rw [hlen]
    exact filt_getD _ _ _ _
  rw [e2] at key
  exact key
theorem atI0_eq {n : Nat} : atI0 0 n = .dat (.int (n : Int)) := by
  unfold atI0
  rw [Int.zero_add]
/-- [elt for x in range(j)] -/
theorem LC.lR (jx : Nat) {y : Str} {q : Pos} {qs : Pos} {g : Nat → D} (ok : blkC C.N C.sc scope own = true) (nd : C.N.Nodup) (ho : own.map (·.2) = [jx]) (h : EV C a E M (.dat (.int j)) M1) (hm : Bt C.g "range") (hl : M.length ≤ M1.length) (hok : OkM M M1) (hz : j < 100000 ∧ -100000 < j)
    (step : ∀ i, i < j.toNat → ∀ M, EV (C.blk scope) elt ((wipeE E [jx]).set jx (.dat (.int (i : Int)))) M (.dat (g i)) M) (hy : y = "range" := by rfl) (hg : C.sc.names.lookup y = some .globalImplicit := by rfl) (hs : ∀ env, starEach [a] env = [(false, eval a env)] := by intro _; rfl)
    (hi : C.N[jx]? = some x := by rfl) (hx : Loc (C.blk scope).sc x := by first | exact Or.inl rfl | exact Or.inr rfl) (hf' : (C.blk scope).fn x = true ∨ (C.blk scope).sc.names.lookup x = some .local := by first | exact .inl rfl | exact .inr rfl)
    (hf : ∀ env x, foldedSetIterable (.Call (.Name y q) [a] [] qs) env x = pure x := by intro _ _; rfl) : LC C elt (.Name x p) (.Call (.Name y q) [a] [] qs) [] scope own E M (.dat (.lst ((List.range j.toNat).map g))) M1 := by
  have key := LC.lPF (tg := .Name x p) (elt := elt) (ifs := []) (scope := scope) (own := own) (n := j.toNat) (v := g) (f := fun _ => true) ok nd (EI.rng1 (x := y) (p := q) (pos := qs) h hm (by omega) hy hg hs) (fun _ => True.intro) (by omega) hl hok (fun i hi' => by
    refine ⟨_, fun M => EGv.nm jx nd (by rw [ho]; simp) hi hx hf', fun M => EP.nil, fun _ M => ?_⟩
    rw [ho, atI0_eq]
    exact step i hi' M) hf
  rw [List.filter_eq_self.mpr (fun _ _ => rfl)] at key
  exact key
/-- [elt for x in range(j)], each element turns cells; the list a datum -/
theorem LC.lRS (jx : Nat) {y : Str} {q : Pos} {qs : Pos} {v : Nat → D} {M_ : Nat → Mem} (ok : blkC C.N C.sc scope own = true) (nd : C.N.Nodup) (ho : own.map (·.2) = [jx]) (h : EV C a E M (.dat (.int j)) M1) (hm : Bt C.g "range") (h0 : M_ 0 = M1) (hlen : ∀ i, i ≤ j.toNat → (M_ i).length = M1.length) (hl : M.length ≤ M1.length) (hok : OkM M (M_ j.toNat)) (hz : j < 100000 ∧ -100000 < j)
    (step : ∀ i, i < j.toNat → ∀ c, EV (C.blk scope) elt ((wipeE E [jx]).set jx (.dat (.int (i : Int)))) (M_ i ++ [c]) (.dat (v i)) (M_ (i + 1) ++ [c])) (hy : y = "range" := by rfl) (hg : C.sc.names.lookup y = some .globalImplicit := by rfl) (hs : ∀ env, starEach [a] env = [(false, eval a env)] := by intro _; rfl)
    (hi : C.N[jx]? = some x := by rfl) (hx : Loc (C.blk scope).sc x := by first | exact Or.inl rfl | exact Or.inr rfl) (hf' : (C.blk scope).fn x = true ∨ (C.blk scope).sc.names.lookup x = some .local := by first | exact .inl rfl | exact .inr rfl)
    (hf : ∀ env x, foldedSetIterable (.Call (.Name y q) [a] [] qs) env x = pure x := by intro _ _; rfl) : LC C elt (.Name x p) (.Call (.Name y q) [a] [] qs) [] scope own E M (.dat (.lst ((List.range j.toNat).map v))) (M_ j.toNat) :=
  LC.lS ok nd (EI.rng1 (x := y) (p := q) (pos := qs) h hm (by omega) hy hg hs) h0 hlen (fun _ _ _ => True.intro) (by omega) hl hok (fun i hi' => ⟨_, fun M => EGv.nm jx nd (by rw [ho]; simp) hi hx hf', fun c => by
    rw [ho, atI0_eq]
    exact step i hi' c⟩) hf
/-- .. a cell -/
theorem LC.lRSC (jx : Nat) {y : Str} {q : Pos} {qs : Pos} {v : Nat → D} {M_ : Nat → Mem} (ok : blkC C.N C.sc scope own = true) (nd : C.N.Nodup) (ho : own.map (·.2) = [jx]) (h : EV C a E M (.dat (.int j)) M1) (hm : Bt C.g "range") (h0 : M_ 0 = M1) (hlen : ∀ i, i ≤ j.toNat → (M_ i).length = M1.length) (hz : j < 100000 ∧ -100000 < j)
    (step : ∀ i, i < j.toNat → ∀ c, EV (C.blk scope) elt ((wipeE E [jx]).set jx (.dat (.int (i : Int)))) (M_ i ++ [c]) (.dat (v i)) (M_ (i + 1) ++ [c])) (hy : y = "range" := by rfl) (hg : C.sc.names.lookup y = some .globalImplicit := by rfl) (hs : ∀ env, starEach [a] env = [(false, eval a env)] := by intro _; rfl)
    (hi : C.N[jx]? = some x := by rfl) (hx : Loc (C.blk scope).sc x := by first | exact Or.inl rfl | exact Or.inr rfl) (hf' : (C.blk scope).fn x = true ∨ (C.blk scope).sc.names.lookup x = some .local := by first | exact .inl rfl | exact .inr rfl)
    (hf : ∀ env x, foldedSetIterable (.Call (.Name y q) [a] [] qs) env x = pure x := by intro _ _; rfl) : LC C elt (.Name x p) (.Call (.Name y q) [a] [] qs) [] scope own E M (.adr M1.length) (M_ j.toNat ++ [some (((List.range j.toNat).map v).map .dat)]) :=
  LC.lSC ok nd (EI.rng1 (x := y) (p := q) (pos := qs) h hm (by omega) hy hg hs) h0 hlen (fun _ _ _ => True.intro) (by omega) (fun i hi' => ⟨_, fun M => EGv.nm jx nd (by rw [ho]; simp) hi hx hf', fun c => by
    rw [ho, atI0_eq]
    exact step i hi' c⟩) hf
/-- [elt for x, y in zip(xs, ys)] -/
theorem LC.lZ {α β : Type} (jx jy : Nat) {y z : Str} {q qs q1 q2 : Pos} {kk : Nat} {xs : List α} {ys : List β} {f1 : α → D} {f2 : β → D} {g : α → β → D} (ok : blkC C.N C.sc scope own = true) (nd : C.N.Nodup) (ho : own.map (·.2) = [jx, jy])
    (h1 : EV C a E M (.dat d1) M1) (h2 : EV C b E M1 (.dat d2) M2) (hd : (d1 = .tup (xs.map f1) ∧ d2 = .tup (ys.map f2)) ∨ (d1 = .lst (xs.map f1) ∧ d2 = .lst (ys.map f2))) (hm : Bt C.g "zip") (hl : M.length ≤ M2.length) (hok : OkM M M2) (hz : xs.length < 100000)
    (step : ∀ u ∈ xs, ∀ v ∈ ys, ∀ M, EV (C.blk scope) elt (((wipeE E [jx, jy]).set jx (.dat (f1 u))).set jy (.dat (f2 v))) M (.dat (g u v)) M)
    (hy : z = "zip" := by rfl) (hg : C.sc.names.lookup z = some .globalImplicit := by rfl) (hs : ∀ env, starEach [a, b] env = (false, eval a env) :: starEach [b] env := by intro _; rfl) (hs2 : ∀ env, starEach [b] env = (false, eval b env) :: starEach [] env := by intro _; rfl) (hpl : ∀ env, (backTo qs (starEach [b] env)).any (·.1) = false := by intro _; rfl)
    (hi : C.N[jx]? = some x := by rfl) (hi' : C.N[jy]? = some y := by rfl) (hx : Loc (C.blk scope).sc x := by first | exact Or.inl rfl | exact Or.inr rfl) (hx' : Loc (C.blk scope).sc y := by first | exact Or.inl rfl | exact Or.inr rfl)
    (hf' : (C.blk scope).fn x = true ∨ (C.blk scope).sc.names.lookup x = some .local := by first | exact .inl rfl | exact .inr rfl) (hf'' : (C.blk scope).fn y = true ∨ (C.blk scope).sc.names.lookup y = some .local := by first | exact .inl rfl | exact .inr rfl)
    (hf : ∀ env x, foldedSetIterable (.Call (.Name z q) [a, b] [] qs) env x = pure x := by intro _ _; rfl) : LC C elt (.Tuple [.Name x q1, .Name y q2] kk p) (.Call (.Name z q) [a, b] [] qs) [] scope own E M (.dat (.lst ((xs.zip ys).map fun u => g u.1 u.2))) M2 := by
  have hlen : min (xs.map f1).length (ys.map f2).length = (xs.zip ys).length := by rw [List.length_map, List.length_map, List.length_zip]
  have hle : (xs.zip ys).length ≤ xs.length := by rw [List.length_zip]; omega
  have key := LC.lPF (tg := .Tuple [.Name x q1, .Name y q2] kk p) (elt := elt) (ifs := []) (scope := scope) (own := own) (v := fun i => ((xs.zip ys).map fun u => g u.1 u.2).getD i .non) (f := fun _ => true) ok nd (EI.zip (p := q) (pos := qs) (elts := [.Name x q1, .Name y q2]) (kk := kk) (tp := p) h1 h2 hd hm hy hg hs hs2 hpl) (fun _ => True.intro) (by omega) hl hok (fun i hlt => by
    rw [hlen] at hlt
    have l1 : i < xs.length := by rw [List.length_zip] at hlt; omega
    have l2 : i < ys.length := by rw [List.length_zip] at hlt; omega
    refine ⟨((wipeE E (own.map (·.2))).set jx (.dat (f1 xs[i]))).set jy (.dat (f2 ys[i])), fun M => ?_, fun M => EP.nil, fun _ M => ?_⟩
    · have ez : atZ (xs.map f1) (ys.map f2) i = .dat (.tup [f1 xs[i], f2 ys[i]]) := by
        unfold atZ
        rw [List.getD_eq_getElem?_getD, List.getD_eq_getElem?_getD, List.getElem?_map, List.getElem?_map, List.getElem?_eq_getElem l1, List.getElem?_eq_getElem l2]
        rfl
      rw [ez]
      exact EGv.tup (EGvs.cons (EGv.nm jx nd (by rw [ho]; simp) hi hx hf') (EGvs.cons (EGv.nm jy nd (by rw [ho]; simp) hi' hx' hf'') EGvs.nil))
    · have e : ((xs.zip ys).map fun u => g u.1 u.2).getD i .non = g xs[i] ys[i] := by
        rw [List.getD_eq_getElem?_getD, List.getElem?_map, List.getElem?_eq_getElem hlt, List.getElem_zip]
        rfl
      rw [e, ho]
      exact step _ (List.getElem_mem l1) _ (List.getElem_mem l2) M) hf
  have e2 : ((List.range (min (xs.map f1).length (ys.map f2).length)).filter fun _ => true).map (fun i => ((xs.zip ys).map fun u => g u.1 u.2).getD i D.non) = (xs.zip ys).map fun u => g u.1 u.2 := by
    rw [List.filter_eq_self.mpr (fun _ _ => rfl), hlen, ← List.length_map (fun u : α × β => g u.1 u.2)]
    exact range_getD _ _
  rw [e2] at key
  exact key

/-! ### methods of cells -/
theorem EV.append {n : Nat} {ps ps1 : List O} (ho : EV C a E M (.adr n) M1) (hv : EV C b E M1 o M2) (hm1 : M1[n]? = some (some ps1)) (hm : M2[n]? = some (some ps)) (hz : ps.length < 100000)
    (hbase : ∀ env, attributeBase a "append" env (eval a env) = eval a env := by intro _; rfl)
    (hfew : ∀ env, ((backTo pos (starEach [b] env)).all (fun x => !x.1) && (backToKw pos (keywordEach [] env)).all (fun x => x.1.isSome) && decide ([b].length + ([] : List Keyword).length + (if ([] : List Keyword).isEmpty then 0 else 1) < 30)) = true := by intro _; rfl)
    (hline : (apos.endLine == pos.line) = true := by rfl) (hs : ∀ env, starEach [b] env = (false, eval b env) :: starEach [] env := by intro _; rfl) : EV C (.Call (.Attribute a "append" apos) [b] [] pos) E M (.dat .non) (M2.set n (some (ps ++ [o]))) :=
  EV.mk (t := tBM C.g.K "list" rAppend (UE C a) (tCons (UE C b) tNil)) (fun X hX => by
    have := pe_bm (apos := apos) (cpos := pos) PySem.F.plainAttrs_list PySem.F.slot_list_append PySem.F.type_list_append mt_append (ue hX a) (pa_cons (ue hX b) pa_nil (hs X.env)) (hbase X.env) (hfew X.env) hline (hs X.env) rfl
    rw [hX.K] at this
    exact this) fun I H adr σ Q s q => ho I H adr σ _ s fun v I1 H1 adr1 s1 g1 v1 => by
      obtain ⟨p, hp, rfl⟩ := v1
      obtain ⟨_, xs1, hx1, _⟩ := s1.sto.cell n p ps1 hp hm1
      refine ⟨.inl ⟨rfl, xs1, sql_uniq hx1⟩, hv I1 H1 adr1 σ _ s1 fun w I2 H2 adr2 s2 g2 w2 => ?_⟩
      obtain ⟨_, xs, hx, hr⟩ := s2.sto.cell n p ps (g2.get hp) hm
      obtain ⟨s3, g3⟩ := s2.wri (g2.get hp) hm (Vs.app hr (.cons w2 .nil))
      exact ⟨p, xs, w, rfl, rfl, hx, by rw [← hr.length]; exact sz_lt hz, q _ I2 _ adr2 s3 ((g1.trans g2).trans g3) .non⟩
theorem EV.pop {n : Nat} {ps : List O} (ho : EV C a E M (.adr n) M1) (hm : M1[n]? = some (some ps)) (hl : ps[ps.length - 1]? = some o)
    (hbase : ∀ env, attributeBase a "pop" env (eval a env) = eval a env := by intro _; rfl) (hline : (apos.endLine == pos.line) = true := by rfl) : EV C (.Call (.Attribute a "pop" apos) [] [] pos) E M o (M1.set n (some ps.dropLast)) :=
  EV.mk (t := tBM0 C.g.K "list" rPop (UE C a)) (fun X hX => by
    have := pe_bm0 (apos := apos) (cpos := pos) PySem.F.plainAttrs_list PySem.F.slot_list_pop PySem.F.type_list_pop mt_pop (ue hX a) (hbase X.env) hline
    rw [hX.K] at this
    exact this) fun I H adr σ Q s q => ho I H adr σ _ s fun v I1 H1 adr1 s1 g1 v1 => by
      obtain ⟨p, hp, rfl⟩ := v1
      obtain ⟨_, xs, hx, hr⟩ := s1.sto.cell n p ps hp hm
      obtain ⟨y, hy, vy⟩ := hr.get hl
      obtain ⟨s3, g3⟩ := s1.wri hp hm (Vs.dropLast hr)
      exact ⟨.inl ⟨rfl, xs, sql_uniq hx⟩, p, xs, y, rfl, rfl, hx, by rw [← hr.length]; exact hy, q _ I1 _ adr1 s3 (g1.trans g3) (Vo.mono g3 vy)⟩

/-! ### is, on bools -/
theorem CS.isB : CS C .Is (.dat (.bl k)) (.dat (.bl k')) M (.dat (.bl (decide (k = k')))) M := ⟨_, fun X _ => op_is_bl, fun I H adr σ E v w Q s hv hw q => by
  cases rep_bl hv
  cases rep_bl hw
  exact ⟨k, k', rfl, rfl, q _ I H adr s Grow.refl (.bl _)⟩⟩
theorem CS.isnotB : CS C .IsNot (.dat (.bl k)) (.dat (.bl k')) M (.dat (.bl (!decide (k = k')))) M := ⟨_, fun X _ => op_isnot_bl, fun I H adr σ E v w Q s hv hw q => by
  cases rep_bl hv
  cases rep_bl hw
  exact ⟨k, k', rfl, rfl, q _ I H adr s Grow.refl (.bl _)⟩⟩

/-! ### calls of defs -/
theorem EV.callG {R : Rel} {kf : Nat} {os0 : List O} {o0 : O} {M0 M0' : Mem} {ι : List Nat} (F : FN C.g x kf R) (ha : EA C (e :: es) E M os M1) (hR : R os0 M0 o0 M0') (ho : os = os0.map (·.ren (rho ι M1.length))) (mx : Mix ι M1 M0 M0' M2) (hk : Nat.ble kf C.k = true := by rfl)
    (hg : C.sc.names.lookup x = some .globalImplicit := by rfl) (hdb : (x == ("__debug__" : Str)) = false := by decide) (he : ∀ env, starEach (e :: es) env = (false, eval e env) :: starEach es env := by intro _; rfl) (hpl : ∀ env, (backTo pos (starEach es env)).any (·.1) = false := by intro _; rfl) :
    EV C (.Call (.Name x p) (e :: es) [] pos) E M (o0.ren (rho ι M1.length)) M2 := by
  obtain ⟨f, fd, ps, F, hm, hkp, hb⟩ := F
  refine EV.mk (t := tCall (spR R) [] E0 (UA C (e :: es))) (fun X hX => ?_) (ev_call ha hR ho mx)
  refine pe_call (k := kf) (f := f) (fd := fd) (ps := ps) (by rw [hX.P, hX.w, hX.K, hX.mg, hX.base]; exact F) (hX.room.mono (Nat.le_of_ble_eq_true hk)) (by show X.env.scope.names.lookup x = _; rw [hX.sc]; exact hg) (by rw [hX.mg]; exact hm) (by rw [hX.K]; exact hkp) (by rw [hX.K]; exact hb) .nil pass0 (ua hX _) hdb (he X.env) (hpl X.env)
theorem mix0 : Mix [] M [] [] M := ⟨rfl, List.nodup_nil, rfl, fun i k h => by simp at h, fun k os h => .inl ⟨by simp, h⟩⟩
theorem ren_dat {ρ : Nat → Nat} : ∀ ds : List D, (ds.map O.dat).map (·.ren ρ) = ds.map O.dat
  | [] => rfl
  | d :: ds => by
    show O.dat d :: _ = O.dat d :: _
    rw [ren_dat ds]
theorem mix1 {n : Nat} {ds ds' : List D} (h : M[n]? = some (some (ds.map .dat))) : Mix [n] M [some (ds.map .dat)] [some (ds'.map .dat)] (M.set n (some (ds'.map .dat))) := by
  refine ⟨rfl, by simp, by simp, fun i k hk => ?_, fun k os hk => ?_⟩
  · have hi : i = 0 := by
      have := (List.getElem?_eq_some_iff.mp hk).1
      simp at this
      exact this
    subst hi
    have : n = k := by simpa using hk
    subst this
    rw [h]
    show _ = some (some ((ds.map O.dat).map _))
    rw [ren_dat]
  · by_cases hn : k = n
    · subst hn
      rw [List.getElem?_set_self (List.getElem?_eq_some_iff.mp h).1] at hk
      refine .inr ⟨0, ds'.map .dat, rfl, .inl (by simp), rfl, ?_⟩
      rw [ren_dat]
      exact (Option.some.inj (Option.some.inj hk)).symm
    · rw [List.getElem?_set_ne (fun z => hn z.symm)] at hk
      exact .inl ⟨by simpa using hn, hk⟩
theorem mixN {ds : List D} : Mix [] M [] [some (ds.map .dat)] (M ++ [some (ds.map .dat)]) := by
  refine ⟨rfl, List.nodup_nil, by simp, fun i k h => by simp at h, fun k os hk => ?_⟩
  by_cases hn : k < M.length
  · rw [List.getElem?_append_left hn] at hk
    exact .inl ⟨by simp, hk⟩
  · rw [List.getElem?_append_right (Nat.le_of_not_lt hn)] at hk
    have h0 : k - M.length = 0 := by
      have := (List.getElem?_eq_some_iff.mp hk).1
      simp at this
      omega
    rw [h0] at hk
    refine .inr ⟨0, ds.map .dat, ?_, .inr (Nat.le_refl _), rfl, ?_⟩
    · show M.length + (0 - 0) = k
      omega
    · rw [ren_dat]
      exact (Option.some.inj (Option.some.inj hk)).symm
theorem mix1N {n : Nat} {ds ds' es : List D} (h : M[n]? = some (some (ds.map .dat))) : Mix [n] M [some (ds.map .dat)] [some (ds'.map .dat), some (es.map .dat)] (M.set n (some (ds'.map .dat)) ++ [some (es.map .dat)]) := by
  refine ⟨rfl, by simp, by simp, fun i k hk => ?_, fun k os hk => ?_⟩
  · have hi : i = 0 := by
      have := (List.getElem?_eq_some_iff.mp hk).1
      simp at this
      exact this
    subst hi
    have : n = k := by simpa using hk
    subst this
    rw [h]
    show _ = some (some ((ds.map O.dat).map _))
    rw [ren_dat]
  · have hnl : n < M.length := (List.getElem?_eq_some_iff.mp h).1
    by_cases hlt : k < M.length
    · rw [List.getElem?_append_left (by rw [List.length_set]; exact hlt)] at hk
      by_cases hn : k = n
      · subst hn
        rw [List.getElem?_set_self hnl] at hk
        refine .inr ⟨0, ds'.map .dat, rfl, .inl (by simp), rfl, ?_⟩
        rw [ren_dat]
        exact (Option.some.inj (Option.some.inj hk)).symm
      · rw [List.getElem?_set_ne (fun z => hn z.symm)] at hk
        exact .inl ⟨by simpa using hn, hk⟩
    · rw [List.getElem?_append_right (by rw [List.length_set]; exact Nat.le_of_not_lt hlt), List.length_set] at hk
      have h0 : k - M.length = 0 := by
        have := (List.getElem?_eq_some_iff.mp hk).1
        simp at this
        omega
      rw [h0] at hk
      refine .inr ⟨1, es.map .dat, ?_, .inr (by simp), rfl, ?_⟩
      · show M.length + (1 - 1) = k
        omega
      · rw [ren_dat]
        exact (Option.some.inj (Option.some.inj hk)).symm
/-- a def of data alone -/
theorem EV.call {R : Rel} {kf : Nat} {ds : List D} (F : FN C.g x kf R) (ha : EA C (e :: es) E M (ds.map .dat) M1) (hR : R (ds.map .dat) [] (.dat d) []) (hk : Nat.ble kf C.k = true := by rfl)
    (hg : C.sc.names.lookup x = some .globalImplicit := by rfl) (hdb : (x == ("__debug__" : Str)) = false := by decide) (he : ∀ env, starEach (e :: es) env = (false, eval e env) :: starEach es env := by intro _; rfl) (hpl : ∀ env, (backTo pos (starEach es env)).any (·.1) = false := by intro _; rfl) :
    EV C (.Call (.Name x p) (e :: es) [] pos) E M (.dat d) M1 := EV.callG (ι := []) F ha hR (by rw [ren_dat]) mix0 hk hg hdb he hpl
/-- .. that hands back a new list -/
theorem EV.callN {R : Rel} {kf : Nat} {ds fs : List D} (F : FN C.g x kf R) (ha : EA C (e :: es) E M (ds.map .dat) M1) (hR : R (ds.map .dat) [] (.adr 0) [some (fs.map .dat)]) (hk : Nat.ble kf C.k = true := by rfl)
    (hg : C.sc.names.lookup x = some .globalImplicit := by rfl) (hdb : (x == ("__debug__" : Str)) = false := by decide) (he : ∀ env, starEach (e :: es) env = (false, eval e env) :: starEach es env := by intro _; rfl) (hpl : ∀ env, (backTo pos (starEach es env)).any (·.1) = false := by intro _; rfl) :
    EV C (.Call (.Name x p) (e :: es) [] pos) E M (.adr M1.length) (M1 ++ [some (fs.map .dat)]) := EV.callG (ι := []) F ha hR (by rw [ren_dat]) mixN hk hg hdb he hpl
/-- a def that turns one list, lent first -/
theorem EV.call1 {R : Rel} {kf n : Nat} {ds cs cs' : List D} (F : FN C.g x kf R) (ha : EA C (e :: es) E M (.adr n :: ds.map .dat) M1) (hc : M1[n]? = some (some (cs.map .dat))) (hR : R (.adr 0 :: ds.map .dat) [some (cs.map .dat)] (.dat d) [some (cs'.map .dat)]) (hk : Nat.ble kf C.k = true := by rfl)
    (hg : C.sc.names.lookup x = some .globalImplicit := by rfl) (hdb : (x == ("__debug__" : Str)) = false := by decide) (he : ∀ env, starEach (e :: es) env = (false, eval e env) :: starEach es env := by intro _; rfl) (hpl : ∀ env, (backTo pos (starEach es env)).any (·.1) = false := by intro _; rfl) :
    EV C (.Call (.Name x p) (e :: es) [] pos) E M (.dat d) (M1.set n (some (cs'.map .dat))) := EV.callG (ι := [n]) F ha hR (by show _ = O.adr n :: _; rw [ren_dat]) (mix1 hc) hk hg hdb he hpl
theorem EV.call1N {R : Rel} {kf n : Nat} {ds cs cs' fs : List D} (F : FN C.g x kf R) (ha : EA C (e :: es) E M (.adr n :: ds.map .dat) M1) (hc : M1[n]? = some (some (cs.map .dat))) (hR : R (.adr 0 :: ds.map .dat) [some (cs.map .dat)] (.adr 1) [some (cs'.map .dat), some (fs.map .dat)]) (hk : Nat.ble kf C.k = true := by rfl)
    (hg : C.sc.names.lookup x = some .globalImplicit := by rfl) (hdb : (x == ("__debug__" : Str)) = false := by decide) (he : ∀ env, starEach (e :: es) env = (false, eval e env) :: starEach es env := by intro _; rfl) (hpl : ∀ env, (backTo pos (starEach es env)).any (·.1) = false := by intro _; rfl) :
    EV C (.Call (.Name x p) (e :: es) [] pos) E M (.adr M1.length) (M1.set n (some (cs'.map .dat)) ++ [some (fs.map .dat)]) := EV.callG (ι := [n]) F ha hR (by show _ = O.adr n :: _; rw [ren_dat]) (mix1N hc) hk hg hdb he hpl
end
end Ab
/-! Ab: list(reversed(xs)). -/
namespace AbRev
open PySem PySem.W PySem.Calls PyProof.Rows PySem.Spec RT
section
variable {prog : Program} {w : World} {A : Around} {E : Value → Shared → Prop} {s : Shared}
theorem extend_rev {R : Result → Shared → Prop} {it l : Addr} {items : Array Value} (hh : A.handled = none) (hit : s.heap.IsRevIter it l ((items.size : Int) - 1)) (hl : s.heap.IsList l items) (hne : l ≠ it) (hn : items.size ≤ sizeLine) (S : Addr) (res : Value) (c₀ : Nat) (hS : s.heap.get? S = some { cls := .type "list", data := .seq #[] c₀ }) (hSi : S ≠ it) (hSl : S ≠ l)
    (hR : ∀ h' tk acc' c', (∀ b o, b ≠ S → b ≠ it → s.heap.get? b = some o → h'.get? b = some o) → h'.get? S = some { cls := .type "list", dict := none, data := .seq acc' c', slots := #[] } →
      ItemsOf (fun i v => items[items.size - 1 - i]? = some v) acc' items.size → R (.ok (.ret res)) { s with heap := h', toks := tk }) :
    wpAny (model prog w) A.in1 (Builtin.List.listExtendWith (.ref S) (.ref it) res)
      (fun fin s' => match fin with | .done f => R (.ok f) s' | .again c' => c'.quiet = true ∧ codeAny (model prog w) A c' R s') (fun e s' => R (.error e) s') s := by
  have W := (Walks.listRev (prog := prog) (w := w) (A := A.in1) hh it l hne items).toS
  have hSf : S ∉ [it, l] := by simp only [List.mem_cons, List.not_mem_nil, or_false, not_or]; exact ⟨hSi, hSl⟩
  have hT : s.TypeIs (.ref it) "list_reverseiterator" := Heap.IsRevIter.typeIs hit
  have h1 : Builtin.List.listSameRef (.ref S) (.ref it) = false := by simp [Builtin.List.listSameRef, hSi]
  unfold Builtin.List.listExtendWith
  refine wpAny_bind (wpAny_typeOf hT ?_)
  rw [if_neg (by rw [h1]; decide)]
  refine wpAny_bind (wpAny_pyIter_revIter hit ?_)
  refine wpAny_bind (wpAny_holding ?_)
  unfold Builtin.List.listLengthHint
  refine wpAny_bind (wpAny_specialOf hT nolen_lri ?_)
  show wpAny _ A.in1 (specialOf (Value.ref it) (Str.ofString "__length_hint__") >>= _) _ _ _
  refine wpAny_bind (wpAny_specialOf hT hint_lri ?_)
  generalize hid : ("list_reverseiterator.__length_hint__" : String) = id0
  wp_delta
  rw [show splitId id0 = some ("list_reverseiterator", "__length_hint__") from by subst hid; decide +kernel]
  subst hid
  refine wpAny_bind (wpAny_isInstance (b := true) hT (by rw [isSubtype_type]; kernel_rfl) ?_)
  refine wpAny_pure ?_
  rw [if_neg (by decide)]
  have e0 : ((items.size : Nat) : Int) - 1 - ((0 : Nat) : Int) = (items.size : Int) - 1 := by omega
  refine wpAny_pure ⟨plainId_quiet F.plain_extend_loop _, codeAny_extend_loopS W hn S hSf _ items.size 0 _ #[] c₀ rfl (Nat.zero_le _) ⟨Nat.zero_le _, by rw [e0]; exact hit, hl⟩ hS (ItemsOf.nil _) fun s' acc' c' hm hS' hacc => ?_⟩
  rw [Moved.eq_with hm]
  refine hR s'.heap s'.toks acc' c' (fun b o hb hb2 e => hm.heap b o (fun hmem => ?_) e) hS' hacc
  rcases List.mem_cons.mp hmem with e' | hmem
  · exact hb e'
  · exact hb2 (List.mem_singleton.mp hmem)
theorem list_init_rev {R : Result → Shared → Prop} {it l : Addr} {items : Array Value} (hh : A.handled = none) (hit : s.heap.IsRevIter it l ((items.size : Int) - 1)) (hl : s.heap.IsList l items) (hne : l ≠ it) (hn : items.size ≤ sizeLine) (S : Addr) (hS : s.heap.get? S = some { cls := .type "list", data := .seq #[] }) (hSi : S ≠ it) (hSl : S ≠ l)
    (hR : ∀ h' tk acc' c', (∀ b o, b ≠ S → b ≠ it → s.heap.get? b = some o → h'.get? b = some o) → h'.get? S = some { cls := .type "list", dict := none, data := .seq acc' c', slots := #[] } →
      ItemsOf (fun i v => items[items.size - 1 - i]? = some v) acc' items.size → R (.ok (.ret .none)) { s with heap := h', toks := tk }) :
    wpAny (model prog w) A.in1 (Builtin.«list.__init__» ⟨[.ref S, .ref it], []⟩)
      (fun fin s' => match fin with | .done f => R (.ok f) s' | .again c' => c'.quiet = true ∧ codeAny (model prog w) A c' R s') (fun e s' => R (.error e) s') s := by
  show wpAny _ _ (do let old ← Builtin.List.listItems (.ref S); Builtin.List.listUpdate (.ref S) (fun _ => #[]); letGo old.toList.reverse; Builtin.List.listExtendWith (.ref S) (.ref it) .none) _ _ s
  refine wpAny_bind ?_
  unfold Builtin.List.listItems
  refine wpAny_bind (wpAny_seqItems hS rfl (wpAny_pure ?_))
  show wpAny _ _ (updateSeq S (fun _ => #[]) >>= fun _ => letGo (#[] : Array Value).toList.reverse >>= fun _ => Builtin.List.listExtendWith (.ref S) (.ref it) .none) _ _ s
  refine wpAny_bind (wpAny_updateSeq hS rfl ?_)
  have hS₂ := Heap.get?_update_self (Obj.mapSeq (fun _ => (#[] : Array Value))) hS rfl
  have oth : ∀ b o, b ≠ S → s.heap.get? b = some o → (s.heap.update S (Obj.mapSeq (fun _ => (#[] : Array Value)))).get? b = some o :=
    fun b o hb e => (Heap.get?_update_other _ _ (Ne.symm hb)).trans e
  refine wpAny_bind (wpAny_letGo ?_)
  refine extend_rev hh (hit.at fun o e => oth it o (Ne.symm hSi) e) (hl.at fun o e => oth l o (Ne.symm hSl) e) hne hn S .none _ hS₂ hSi hSl fun h' tk acc' c' hk hS' hacc => ?_
  exact hR h' tk acc' c' (fun b o hb hb2 e => hk b o hb hb2 (oth b o hb e)) hS' hacc
theorem call_list_rev {it l : Addr} {items : Array Value} {Q : Value → Shared → Prop} (hh : A.handled = none) (hit : s.heap.IsRevIter it l ((items.size : Int) - 1)) (hl : s.heap.IsList l items) (hne : l ≠ it) (hn : items.size ≤ sizeLine)
    (hQ : ∀ h' tk acc' c', (∀ b o, b ≠ it → s.heap.get? b = some o → h'.get? b = some o) →
      h'.get? s.heap.objs.size = some { cls := .type "list", dict := none, data := .seq acc' c', slots := #[] } → ItemsOf (fun i v => items[items.size - 1 - i]? = some v) acc' items.size → Q (.ref s.heap.objs.size) { s with heap := h', toks := tk }) :
    wpAny (model prog w) A (call (.type "list") [.ref it]) Q E s := by
  refine callType_codes (Q₁ := fun obj s₁ => obj = .ref s.heap.objs.size ∧ s₁ = { s with heap := s.heap.push { cls := .type "list", data := .seq #[] } }) F.called_list (F.typeCall_list_1 _) F.entry_list_init
    (code_list_new _ ⟨rfl, rfl⟩) fun obj s₁ h₁ => ?_
  obtain ⟨rfl, rfl⟩ := h₁
  obtain ⟨oi, hoi, _⟩ := id hit
  obtain ⟨ol, hol, _⟩ := id hl
  have hS : (s.heap.push { cls := .type "list", data := .seq #[] }).get? s.heap.objs.size = some { cls := .type "list", data := .seq #[] } := Heap.get?_push_size _ rfl
  refine ⟨⟨_, hS, rfl⟩, F.args_list_init_2 _ _, list_init_rev (A := A.in1) (s := { s with heap := s.heap.push { cls := .type "list", data := .seq #[] } }) hh (hit.at fun o e => Heap.get?_push_of_some _ e) (hl.push _) hne hn _ hS (Nat.ne_of_gt (Heap.lt_size hoi)) (Nat.ne_of_gt (Heap.lt_size hol)) fun h' tk acc' c' hk hS' hacc => ?_⟩
  exact ⟨rfl, hQ h' tk acc' c' (fun b o hb e => hk b o (Nat.ne_of_lt (Heap.lt_size e)) hb (Heap.get?_push_of_some _ e)) hS' hacc⟩
end
end AbRev

namespace Ab
open PySem PySem.Spec PyProof.Rows L2
def tListRev (K : PySem.W.Frag) (te : TE) : TE := fun σ H Q => te σ H fun v H1 => ∃ (a : Addr) (xs : List V), v = .ref a ∧ SqL K H1 a xs ∧ ∀ q, H1 q = none → Q (.ref q) (upd H1 q (.lst xs.reverse))
theorem pe_listRev {X : Cx} {e : Expr} {te : TE} {p p2 pos pos2 : Pos} (hc : X.calm = true) (hg : Gl X "list") (hm : X.mg "list" = none) (hg2 : Gl X "reversed") (hm2 : X.mg "reversed" = none) (he : PE X e te)
    (hs : starEach [e] X.env = (false, eval e X.env) :: starEach [] X.env := by rfl)
    (hs2 : starEach [.Call (.Name "reversed" p2) [e] [] pos2] X.env = (false, eval (.Call (.Name "reversed" p2) [e] [] pos2) X.env) :: starEach [] X.env := by rfl) :
    PE X (.Call (.Name "list" p) [.Call (.Name "reversed" p2) [e] [] pos2] [] pos) (tListRev X.K te) := by
  refine ⟨fun pins s σ H Q I h => ?_⟩
  refine Call_ (ld_blt I hg hm (by decide +kernel : bootBuiltins "list" = some (.type "list")) (PyProof.Rows.callWith_type1 (args_cons (Call_ (ld_blt I hg2 hm2 PyProof.Rows.boot_reversed (PyProof.Rows.callWith_type1 (args_cons (thn (he.run pins s σ H _ I h) fun u s1 ⟨v, H1, I1, r1, q1⟩ => args_nil ?_) hs) hs rfl))) hs2) hs2 rfl))
  obtain ⟨a, xs, ev, hq, q⟩ := q1
  subst ev
  obtain rfl : u = Value.ref a := r1
  obtain ⟨its, rv, p', hz⟩ := I1.list hq
  refine call_reversed_list p'.isList (args_nil ?_)
  have k0 : ∀ b o, s1.heap.get? b = some o → (s1.heap.push (revObj a ((its.toArray.size : Int) - 1))).get? b = some o := fun b o e => Heap.get?_push_of_some _ e
  have I2 : Inv X pins σ H1 { s1 with heap := s1.heap.push (revObj a ((its.toArray.size : Int) - 1)) } := I1.kept (t' := s1.toks) k0
  have hf := I1.fpOk (H' := H1) (b := s1.heap.objs.size) (Nat.le_refl _) (I1.hok.fresh (Nat.le_refl _))
  have hl := p'.isList
  obtain ⟨ol, hol, _⟩ := id hl
  have hne : a ≠ s1.heap.objs.size := Nat.ne_of_lt (Heap.lt_size hol)
  have hn : its.toArray.size ≤ sizeLine := by rw [List.size_toArray, ← rv.length]; exact hz
  refine AbRev.call_list_rev (s := { s1 with heap := s1.heap.push (revObj a ((its.toArray.size : Int) - 1)) }) (I1.ok.hd hc) ⟨_, Heap.get?_push_size _ rfl, rfl, rfl⟩ (hl.push _) hne hn fun h' tk acc c' hk hS hi => ?_
  have new : ObjOk X.prog X.w (upd H1 (s1.heap.push (revObj a ((its.toArray.size : Int) - 1))).objs.size (.lst xs.reverse)) h' (s1.heap.push (revObj a ((its.toArray.size : Int) - 1))).objs.size (.lst xs.reverse) :=
    ⟨by rw [List.length_reverse]; exact hz, acc.toList, c', RT.vals_rev rv hi, by rw [Array.toArray_toList]; exact hS⟩
  exact ⟨.ref _, _, I2.turnedNew (t' := tk) (ch := [s1.heap.objs.size]) (fun b o hb e => hk b o (fun z => hb (by rw [z]; exact List.mem_singleton.mpr rfl)) e) (fun b hb => by rw [List.mem_singleton.mp hb]; exact hf) (Nat.le_refl _) new, rfl, q _ (I2.hok.fresh (Nat.le_refl _))⟩
end Ab
/-! Ab: short words. -/
namespace Ab
open PySem PySem.Spec PyProof.Rows L2
section
variable {C : Cc} {E E1 E2 E' : List O} {M M1 M2 M3 M' : Mem} {o o1 o2 o3 : O} {os : List O} {e a b c tg iter elt : Expr} {es : List Expr} {pos pos' p p2 pos2 : Pos} {d d1 d2 : D} {i j : Int} {n : Nat} {k k' : Bool} {r : Out} {body : List Stmt} {x y : Str} {ds : List D}

/-! ### built-ins by name -/
theorem EV.bi {id : String} (S : KS C (.builtin id) [o1] M1 o M') (h : EV C a E M o1 M1) (hm : Bt C.g x) (hv : bootBuiltins x = some (.builtin id)) (hn : x ≠ "__name__") (hdb : (x == ("__debug__" : Str)) = false) (hg : C.sc.names.lookup x = some .globalImplicit)
    (he : ∀ env, starEach [a] env = (false, eval a env) :: starEach [] env) : EV C (.Call (.Name x p) [a] [] pos) E M o M' := EV.cb S (EA.cons h EA.nil he) hm hv hg hn hdb he (fun _ => rfl)
theorem EV.bt {T : String} (S : KS C (.type T) [o1] M1 o M') (h : EV C a E M o1 M1) (hm : Bt C.g x) (hv : bootBuiltins x = some (.type T)) (hn : x ≠ "__name__") (hdb : (x == ("__debug__" : Str)) = false) (hg : C.sc.names.lookup x = some .globalImplicit)
    (he : ∀ env, starEach [a] env = (false, eval a env) :: starEach [] env) : EV C (.Call (.Name x p) [a] [] pos) E M o M' := EV.cty S (EA.cons h EA.nil he) hm hv hg hn hdb he (fun _ => rfl)
theorem bv_len : bootBuiltins "len" = some (.builtin "len") := by decide +kernel
theorem bv_sum : bootBuiltins "sum" = some (.builtin "sum") := by decide +kernel
theorem bv_all : bootBuiltins "all" = some (.builtin "all") := by decide +kernel
theorem bv_any : bootBuiltins "any" = some (.builtin "any") := by decide +kernel
theorem bv_abs : bootBuiltins "abs" = some (.builtin "abs") := by decide +kernel
theorem bv_min : bootBuiltins "min" = some (.builtin "min") := by decide +kernel
theorem bv_max : bootBuiltins "max" = some (.builtin "max") := by decide +kernel
theorem bv_int : bootBuiltins "int" = some (.type "int") := by decide +kernel
theorem bv_bool : bootBuiltins "bool" = some (.type "bool") := by decide +kernel
theorem bv_str : bootBuiltins "str" = some (.type "str") := by decide +kernel
theorem bv_tuple : bootBuiltins "tuple" = some (.type "tuple") := by decide +kernel
theorem bv_list : bootBuiltins "list" = some (.type "list") := by decide +kernel
theorem EV.len (h : EV C a E M (.dat d) M') (hl : lenD d = some n) (hm : Bt C.g "len") (hx : x = "len" := by rfl) (hg : C.sc.names.lookup x = some .globalImplicit := by rfl) (he : ∀ env, starEach [a] env = (false, eval a env) :: starEach [] env := by intro _; rfl) : EV C (.Call (.Name x p) [a] [] pos) E M (.dat (.int (n : Int))) M' := by
  subst hx; exact EV.bi (KS.len hl) h hm bv_len (by decide) (by decide) hg he
theorem EV.lenC {nn : Nat} {ps : List O} (h : EV C a E M (.adr nn) M') (hl : M'[nn]? = some (some ps)) (hm : Bt C.g "len") (hx : x = "len" := by rfl) (hg : C.sc.names.lookup x = some .globalImplicit := by rfl) (he : ∀ env, starEach [a] env = (false, eval a env) :: starEach [] env := by intro _; rfl) : EV C (.Call (.Name x p) [a] [] pos) E M (.dat (.int (ps.length : Int))) M' := by
  subst hx; exact EV.bi (KS.lenC hl) h hm bv_len (by decide) (by decide) hg he
theorem EV.sum {ns : List Int} (h : EV C a E M (.dat (.lst (ns.map .int))) M') (hm : Bt C.g "sum") (hx : x = "sum" := by rfl) (hg : C.sc.names.lookup x = some .globalImplicit := by rfl) (he : ∀ env, starEach [a] env = (false, eval a env) :: starEach [] env := by intro _; rfl) : EV C (.Call (.Name x p) [a] [] pos) E M (.dat (.int ns.sum)) M' := by
  subst hx; exact EV.bi KS.sum h hm bv_sum (by decide) (by decide) hg he
theorem EV.all {bs : List Bool} (h : EV C a E M (.dat (.lst (bs.map .bl))) M') (hm : Bt C.g "all") (hx : x = "all" := by rfl) (hg : C.sc.names.lookup x = some .globalImplicit := by rfl) (he : ∀ env, starEach [a] env = (false, eval a env) :: starEach [] env := by intro _; rfl) : EV C (.Call (.Name x p) [a] [] pos) E M (.dat (.bl (bs.all id))) M' := by
  subst hx; exact EV.bi KS.all h hm bv_all (by decide) (by decide) hg he
theorem EV.any {bs : List Bool} (h : EV C a E M (.dat (.lst (bs.map .bl))) M') (hm : Bt C.g "any") (hx : x = "any" := by rfl) (hg : C.sc.names.lookup x = some .globalImplicit := by rfl) (he : ∀ env, starEach [a] env = (false, eval a env) :: starEach [] env := by intro _; rfl) : EV C (.Call (.Name x p) [a] [] pos) E M (.dat (.bl (bs.any id))) M' := by
  subst hx; exact EV.bi KS.any h hm bv_any (by decide) (by decide) hg he
theorem EV.abs (h : EV C a E M (.dat (.int i)) M') (hm : Bt C.g "abs") (hx : x = "abs" := by rfl) (hg : C.sc.names.lookup x = some .globalImplicit := by rfl) (he : ∀ env, starEach [a] env = (false, eval a env) :: starEach [] env := by intro _; rfl) : EV C (.Call (.Name x p) [a] [] pos) E M (.dat (.int (i.natAbs : Int))) M' := by
  subst hx; exact EV.bi KS.abs h hm bv_abs (by decide) (by decide) hg he
theorem EV.intI (h : EV C a E M (.dat (.int i)) M') (hm : Bt C.g "int") (hx : x = "int" := by rfl) (hg : C.sc.names.lookup x = some .globalImplicit := by rfl) (he : ∀ env, starEach [a] env = (false, eval a env) :: starEach [] env := by intro _; rfl) : EV C (.Call (.Name x p) [a] [] pos) E M (.dat (.int i)) M' := by
  subst hx; exact EV.bt KS.intI h hm bv_int (by decide) (by decide) hg he
theorem EV.intB (h : EV C a E M (.dat (.bl k)) M') (hm : Bt C.g "int") (hx : x = "int" := by rfl) (hg : C.sc.names.lookup x = some .globalImplicit := by rfl) (he : ∀ env, starEach [a] env = (false, eval a env) :: starEach [] env := by intro _; rfl) : EV C (.Call (.Name x p) [a] [] pos) E M (.dat (.int (if k then 1 else 0))) M' := by
  subst hx; exact EV.bt KS.intB h hm bv_int (by decide) (by decide) hg he
theorem EV.tuple (h : EV C a E M (.dat d) M') (hl : seqD d = some ds) (hm : Bt C.g "tuple") (hx : x = "tuple" := by rfl) (hg : C.sc.names.lookup x = some .globalImplicit := by rfl) (he : ∀ env, starEach [a] env = (false, eval a env) :: starEach [] env := by intro _; rfl) : EV C (.Call (.Name x p) [a] [] pos) E M (.dat (.tup ds)) M' := by
  subst hx; exact EV.bt (KS.tuple hl) h hm bv_tuple (by decide) (by decide) hg he
theorem EV.tupleC {nn : Nat} (h : EV C a E M (.adr nn) M') (hl : M'[nn]? = some (some (ds.map .dat))) (hm : Bt C.g "tuple") (hx : x = "tuple" := by rfl) (hg : C.sc.names.lookup x = some .globalImplicit := by rfl) (he : ∀ env, starEach [a] env = (false, eval a env) :: starEach [] env := by intro _; rfl) : EV C (.Call (.Name x p) [a] [] pos) E M (.dat (.tup ds)) M' := by
  subst hx; exact EV.bt (KS.tupleC hl) h hm bv_tuple (by decide) (by decide) hg he
theorem EV.list (h : EV C a E M (.dat d) M') (hl : seqD d = some ds) (hm : Bt C.g "list") (hx : x = "list" := by rfl) (hg : C.sc.names.lookup x = some .globalImplicit := by rfl) (he : ∀ env, starEach [a] env = (false, eval a env) :: starEach [] env := by intro _; rfl) : EV C (.Call (.Name x p) [a] [] pos) E M (.dat (.lst ds)) M' := by
  subst hx; exact EV.bt (KS.list hl) h hm bv_list (by decide) (by decide) hg he
theorem EV.listN (h : EV C a E M (.dat d) M') (hl : seqD d = some ds) (hm : Bt C.g "list") (hx : x = "list" := by rfl) (hg : C.sc.names.lookup x = some .globalImplicit := by rfl) (he : ∀ env, starEach [a] env = (false, eval a env) :: starEach [] env := by intro _; rfl) : EV C (.Call (.Name x p) [a] [] pos) E M (.adr M'.length) (M' ++ [some (ds.map .dat)]) := by
  subst hx; exact EV.bt (KS.listN hl) h hm bv_list (by decide) (by decide) hg he
theorem EV.max2 (h : EV C a E M (.dat (.int i)) M1) (h' : EV C b E M1 (.dat (.int j)) M') (hm : Bt C.g "max") (hx : x = "max" := by rfl) (hg : C.sc.names.lookup x = some .globalImplicit := by rfl) (he : ∀ env, starEach [a, b] env = (false, eval a env) :: starEach [b] env := by intro _; rfl) (he2 : ∀ env, starEach [b] env = (false, eval b env) :: starEach [] env := by intro _; rfl) (hpl : ∀ env, (backTo pos (starEach [b] env)).any (·.1) = false := by intro _; rfl) : EV C (.Call (.Name x p) [a, b] [] pos) E M (.dat (.int (max i j))) M' := by
  subst hx
  have := EV.cb (p := p) (pos := pos) (KS.max2 (C := C) (M := M') (i := i) (j := j)) (EA.cons h (EA.cons h' EA.nil he2) he) hm bv_max hg (by decide) (by decide) he hpl
  have e : (if j > i then j else i) = max i j := by split <;> omega
  rw [e] at this
  exact this
/-- list(reversed(xs)), a cell -/
theorem EV.listRevN (h : EV C a E M (.dat (.lst ds)) M') (hm : Bt C.g "list") (hm2 : Bt C.g "reversed") (hx : x = "list" := by rfl) (hy : y = "reversed" := by rfl) (hg : C.sc.names.lookup x = some .globalImplicit := by rfl) (hg2 : C.sc.names.lookup y = some .globalImplicit := by rfl) (he : ∀ env, starEach [a] env = (false, eval a env) :: starEach [] env := by intro _; rfl) :
    EV C (.Call (.Name x p) [.Call (.Name y p2) [a] [] pos2] [] pos) E M (.adr M'.length) (M' ++ [some (ds.reverse.map .dat)]) := by
  subst hx hy
  refine EV.mk (t := tListRev C.g.K (UE C a)) (fun X hX => ?_) fun I H adr σ Q s q => h I H adr σ _ s fun v I1 H1 adr1 s1 g1 v1 => ?_
  · have := pe_listRev (p := p) (p2 := p2) (pos := pos) (pos2 := pos2) hX.calm (by show X.env.scope.names.lookup _ = _; rw [hX.sc]; exact hg) (by rw [hX.mg]; exact hm) (by show X.env.scope.names.lookup _ = _; rw [hX.sc]; exact hg2) (by rw [hX.mg]; exact hm2) (ue hX a) (he X.env) rfl
    rw [hX.K] at this
    exact this
  · cases (show Rep I1 (.lst ds) v from v1) with
    | @lst q' xs _ hp hr =>
      refine ⟨q', xs, rfl, sql_uniq (s1.ex _ _ hp), fun q2 h2 => ?_⟩
      obtain ⟨s2, g2, r2⟩ := s1.cel h2 (Vs.reps hr.reverse)
      exact q _ _ _ _ s2 (g1.trans g2) ⟨q2, r2, rfl⟩
theorem EV.listRev (h : EV C a E M (.dat (.lst ds)) M') (hm : Bt C.g "list") (hm2 : Bt C.g "reversed") (hl : M.length ≤ M'.length) (ok : OkM M M') (hx : x = "list" := by rfl) (hy : y = "reversed" := by rfl) (hg : C.sc.names.lookup x = some .globalImplicit := by rfl) (hg2 : C.sc.names.lookup y = some .globalImplicit := by rfl) (he : ∀ env, starEach [a] env = (false, eval a env) :: starEach [] env := by intro _; rfl) :
    EV C (.Call (.Name x p) [.Call (.Name y p2) [a] [] pos2] [] pos) E M (.dat (.lst ds.reverse)) M' := Ev.froz (EV.listRevN h hm hm2 hx hy hg hg2 he) rfl hl ok

/-! ### sums and the like -/
theorem EV.add (ha : EV C a E M (.dat (.int i)) M1) (hb : EV C b E M1 (.dat (.int j)) M') : EV C (.BinOp a .Add b pos) E M (.dat (.int (i + j))) M' := EV.bin ha hb BS.addI
theorem EV.sub (ha : EV C a E M (.dat (.int i)) M1) (hb : EV C b E M1 (.dat (.int j)) M') : EV C (.BinOp a .Sub b pos) E M (.dat (.int (i - j))) M' := EV.bin ha hb BS.subI
theorem EV.mul (ha : EV C a E M (.dat (.int i)) M1) (hb : EV C b E M1 (.dat (.int j)) M') (h : IntMulOk i j) : EV C (.BinOp a .Mult b pos) E M (.dat (.int (i * j))) M' := EV.bin ha hb (BS.mulI h)
theorem EV.mod (ha : EV C a E M (.dat (.int i)) M1) (hb : EV C b E M1 (.dat (.int j)) M') (h : 0 < j) : EV C (.BinOp a .Mod b pos) E M (.dat (.int (i % j))) M' := EV.bin ha hb (BS.modI h)
theorem EV.div (ha : EV C a E M (.dat (.int i)) M1) (hb : EV C b E M1 (.dat (.int j)) M') (h : CDivW i j) : EV C (.BinOp a .FloorDiv b pos) E M (.dat (.int (i / j))) M' := EV.bin ha hb (BS.divI h)
theorem EV.pow (ha : EV C a E M (.dat (.int i)) M1) (hb : EV C b E M1 (.dat (.int j)) M') (h : CPow i j) : EV C (.BinOp a .Pow b pos) E M (.dat (.int (i ^ j.toNat))) M' := EV.bin ha hb (BS.powI h)
theorem mul_ok {i j : Int} {m n : Nat} (hi : i.natAbs < 2 ^ m) (hj : j.natAbs < 2 ^ n) (h0 : 0 < m := by decide) (h1 : 0 < n := by decide) (h : m + n ≤ 1000000 := by decide) : IntMulOk i j := CMulW.ok (wide_mul hi hj h0 h1 h)
theorem bits_le {i : Int} (h : -(2 ^ 64) < i ∧ i < 2 ^ 64) : Builtin.Int.intBits i ≤ 64 := by
  unfold Builtin.Int.intBits
  split
  · omega
  · have h1 : i.natAbs < 2 ^ 64 := by omega
    have := PySem.Flt.log2_lt_of (show 0 < 64 by decide) h1
    omega
theorem mul_okL {i j : Int} (h : -(2 ^ 64) < i ∧ i < 2 ^ 64) : IntMulOk i j := IntMulOk.of_left (bits_le h)
theorem mul_okR {i j : Int} (h : -(2 ^ 64) < j ∧ j < 2 ^ 64) : IntMulOk i j := IntMulOk.of_right (bits_le h)
theorem EV.mulL (ha : EV C a E M (.dat (.int i)) M1) (hb : EV C b E M1 (.dat (.int j)) M') (h : -(2 ^ 64) < i ∧ i < 2 ^ 64) : EV C (.BinOp a .Mult b pos) E M (.dat (.int (i * j))) M' := EV.mul ha hb (mul_okL h)
theorem EV.mulR (ha : EV C a E M (.dat (.int i)) M1) (hb : EV C b E M1 (.dat (.int j)) M') (h : -(2 ^ 64) < j ∧ j < 2 ^ 64) : EV C (.BinOp a .Mult b pos) E M (.dat (.int (i * j))) M' := EV.mul ha hb (mul_okR h)

/-! ### guards -/
theorem ET.to {e : Expr} (h : ET C e E M k M') (q : k = k') : ET C e E M k' M' := q ▸ h
theorem SB.guard {ys rest : List Stmt} (hc : ET C c E M k M1) (h1 : k = true → SB C ys E M1 r) (h2 : k = false → SB C rest E M1 r) (he : r.ends = true := by rfl) : SB C (.If c ys [] pos :: rest) E M r := by
  cases k with
  | true => exact SB.stop (ST.yes hc (h1 rfl)) he
  | false => exact SB.cons (ST.no hc SB.nil) (h2 rfl)
theorem SB.to {sts : List Stmt} {r' : Out} (h : SB C sts E M r) (q : r = r') : SB C sts E M r' := q ▸ h
theorem ST.to {st : Stmt} {r' : Out} (h : ST C st E M r) (q : r = r') : ST C st E M r' := q ▸ h
/-! ### a cell is frozen -/
theorem SB.fz {jj nn : Nat} {sts : List Stmt} (he : E[jj]? = some (.adr nn)) (hm : M[nn]? = some (some (ds.map .dat))) (h : SB C sts (E.set jj (.dat (.lst ds))) (M.set nn none) r) : SB C sts E M r := fun I H adr σ D s q => by
  have hk : nn < adr.length := by
    rw [s.sto.len]
    exact (List.getElem?_eq_some_iff.mp hm).1
  obtain ⟨I1, s1, g1, r1⟩ := s.frz (List.getElem?_eq_getElem hk) hm
  have hj : jj < σ.length := by
    rw [← s.len]
    exact (List.getElem?_eq_some_iff.mp he).1
  have hs := s.slot jj _ σ[jj] he (List.getElem?_eq_getElem hj)
  cases hv : σ[jj] with
  | none =>
    rw [hv] at hs
    cases hs
  | some v =>
    rw [hv] at hs
    obtain ⟨a', h1, h2⟩ := hs
    rw [List.getElem?_eq_getElem hk] at h1
    cases h1
    subst h2
    have s2 : Stt I1 H adr (σ.set jj (some (.ref adr[nn]))) (E.set jj (.dat (.lst ds))) (M.set nn none) := s1.set r1
    have e : σ.set jj (some (.ref adr[nn])) = σ := by
      rw [← hv]
      exact List.set_getElem_self hj
    rw [e] at s2
    exact h I1 H adr σ D s2 (q.mono g1)

/-! ### what a def leaves behind may be dropped -/
def LowO (n : Nat) : O → Prop
  | .adr k => k < n
  | _ => True
def LowM (n : Nat) (M : Mem) : Prop := ∀ (k : Nat) (os : List O), M[k]? = some (some os) → ∀ o ∈ os, LowO n o
theorem LowM.nil {n : Nat} : LowM n [] := fun k os h => by simp at h
theorem LowM.dat {n : Nat} {ds : List D} {M : Mem} (h : LowM n M) : LowM n (some (ds.map .dat) :: M) := fun k os q o ho => by
  cases k with
  | zero =>
    have e : ds.map O.dat = os := Option.some.inj (Option.some.inj q)
    subst e
    obtain ⟨d, _, rfl⟩ := List.mem_map.mp ho
    exact True.intro
  | succ k => exact h k os q o ho
theorem LowM.none {n : Nat} {M : Mem} (h : LowM n M) : LowM n (none :: M) := fun k os q o ho => by
  cases k with
  | zero => cases q
  | succ k => exact h k os q o ho
theorem vo_take {I : Hp} {adr : List Addr} {n : Nat} {v : V} : ∀ {o : O}, LowO n o → Vo I adr o v → Vo I (adr.take n) o v
  | .no, _, _ => True.intro
  | .dat _, _, h => h
  | .scr _ _, _, h => h
  | .adr k, hk, h => by
    obtain ⟨a, h1, h2⟩ := h
    exact ⟨a, by rw [List.getElem?_take, if_pos (show k < n from hk)]; exact h1, h2⟩
theorem vs_take {I : Hp} {adr : List Addr} {n : Nat} : ∀ {os : List O} {xs : List V}, (∀ o ∈ os, LowO n o) → Vs I adr os xs → Vs I (adr.take n) os xs
  | _, _, _, .nil => .nil
  | _, _, hl, .cons h r => .cons (vo_take (hl _ List.mem_cons_self) h) (vs_take (fun o ho => hl o (List.mem_cons_of_mem _ ho)) r)
theorem FN.mkJ {g : Pg} {x : Str} {st : Stmt} {N ps : List Str} {k : Nat} {R : Rel} (T : TxtF g x st) (S : FnScope N ps (defScope st))
    (hb : ∀ (kV doc pm : Value) (an : Option Addr) (cdv ct : Value) (us : List Value), us.length = ps.length → bindArgs (PySem.W.fnOf x x (defArgs st) (defBody st) (defScope st) .none kV doc pm an cdv ct) ⟨us, []⟩ = pure (ps.zip us))
    (hl : ∀ os M o M', R os M o M' → os.length = ps.length) (body : ∀ os M o M', R os M o M' → M.length ≤ M'.length ∧ LowO M'.length o ∧ LowM M'.length M' ∧ ∃ J, SB (mkC g N st k) (defBody st) (pad N os) M (.rt o (M' ++ J))) : FN g x (k + 1) R := by
  obtain ⟨f, fd, F, hm⟩ := T.fn
  refine ⟨f, fd, ps, F.ok (N := N) S (fun vs H Q E h => ?_) (fun cdv A outer s H vs Q E hr h => ?_), hm, F.kp, F.binds hb⟩
  · obtain ⟨I, adr, os, M, o, M', r, _, _, v, _⟩ := h
    rw [← v.length]
    exact hl _ _ _ _ r
  · obtain ⟨I, adr, os, M, o, M', r, ex, sto, v, q⟩ := h
    obtain ⟨hlen, lo, lm, J, hB⟩ := body os M o M' r
    refine ⟨UB (mkC g N st k) (defBody st), ub ⟨rfl, rfl, rfl, rfl, rfl, rfl, rfl, rfl, hr, rfl, fun _ _ => rfl⟩ _, ?_⟩
    refine hB I H adr (L2.start N vs) _ ⟨ex, sto, ?_, fun i p ov h1 h2 => ?_⟩ fun w I' H' adr' s' g' v' => ?_
    · unfold pad L2.start
      rw [List.length_append, List.length_append, List.length_map, List.length_replicate, List.length_replicate, v.length]
    · unfold pad at h1
      unfold L2.start at h2
      by_cases hi : i < os.length
      · rw [List.getElem?_append_left hi] at h1
        obtain ⟨w, e1, e2⟩ := v.get h1
        rw [List.getElem?_append_left (by rw [List.length_map, ← v.length]; exact hi), List.getElem?_map, e1] at h2
        cases h2
        exact e2
      · rw [List.getElem?_append_right (Nat.le_of_not_lt hi)] at h1
        have hp : p = .no := List.eq_of_mem_replicate (List.mem_of_getElem? h1)
        subst hp
        cases ov with
        | none => rfl
        | some w => exact True.intro
    · obtain ⟨nw, rfl, fr⟩ := g'.new
      have l1 := s'.sto.len
      have l2 := sto.len
      rw [List.length_append, List.length_append] at l1
      have ht : (adr ++ nw).take M'.length = adr ++ nw.take (M'.length - adr.length) := by
        rw [List.take_append, List.take_of_length_le (by omega)]
      have sub : ∀ (k : Nat) (a : Addr), ((adr ++ nw).take M'.length)[k]? = some a → (adr ++ nw)[k]? = some a := fun k a h => by
        rw [List.getElem?_take] at h
        split at h
        · exact h
        · cases h
      refine q w I' H' ((adr ++ nw).take M'.length) s'.ex ⟨?_, s'.sto.nd.sublist (List.take_sublist _ _), fun k a ps h1 h2 => ?_, fun k a h1 => s'.sto.dom k a (sub k a h1)⟩ ⟨g'.ex, ⟨_, ht, fun p hp => fr p (List.take_subset _ _ hp)⟩, g'.keep, g'.dom, g'.out⟩ (vo_take lo v')
      · rw [List.length_take, List.length_append]
        omega
      · have hk : k < M'.length := (List.getElem?_eq_some_iff.mp h2).1
        obtain ⟨c1, xs, c2, c3⟩ := s'.sto.cell k a ps (sub k a h1) (by rw [List.getElem?_append_left hk]; exact h2)
        exact ⟨c1, xs, c2, vs_take (lm k ps h2) c3⟩
theorem FN.mkNx {g : Pg} {x : Str} {st : Stmt} {N ps : List Str} {k : Nat} {R : Rel} (T : TxtF g x st) (S : FnScope N ps (defScope st))
    (hb : ∀ (kV doc pm : Value) (an : Option Addr) (cdv ct : Value) (us : List Value), us.length = ps.length → bindArgs (PySem.W.fnOf x x (defArgs st) (defBody st) (defScope st) .none kV doc pm an cdv ct) ⟨us, []⟩ = pure (ps.zip us))
    (hl : ∀ os M o M', R os M o M' → os.length = ps.length) (body : ∀ os M o M', R os M o M' → o = .dat .non ∧ ∃ E', SB (mkC g N st k) (defBody st) (pad N os) M (.nx E' M')) : FN g x (k + 1) R := by
  obtain ⟨f, fd, F, hm⟩ := T.fn
  refine ⟨f, fd, ps, F.ok (N := N) S (fun vs H Q E h => ?_) (fun cdv A outer s H vs Q E hr h => ?_), hm, F.kp, F.binds hb⟩
  · obtain ⟨I, adr, os, M, o, M', r, _, _, v, _⟩ := h
    rw [← v.length]
    exact hl _ _ _ _ r
  · obtain ⟨I, adr, os, M, o, M', r, ex, sto, v, q⟩ := h
    obtain ⟨rfl, E', hB⟩ := body os M o M' r
    refine ⟨UB (mkC g N st k) (defBody st), ub ⟨rfl, rfl, rfl, rfl, rfl, rfl, rfl, rfl, hr, rfl, fun _ _ => rfl⟩ _, ?_⟩
    refine hB I H adr (L2.start N vs) _ ⟨ex, sto, ?_, fun i p ov h1 h2 => ?_⟩ fun I' H' adr' σ' s' g' => q .non I' H' adr' s'.ex s'.sto g' .non
    · unfold pad L2.start
      rw [List.length_append, List.length_append, List.length_map, List.length_replicate, List.length_replicate, v.length]
    · unfold pad at h1
      unfold L2.start at h2
      by_cases hi : i < os.length
      · rw [List.getElem?_append_left hi] at h1
        obtain ⟨w, e1, e2⟩ := v.get h1
        rw [List.getElem?_append_left (by rw [List.length_map, ← v.length]; exact hi), List.getElem?_map, e1] at h2
        cases h2
        exact e2
      · rw [List.getElem?_append_right (Nat.le_of_not_lt hi)] at h1
        have hp : p = .no := List.eq_of_mem_replicate (List.mem_of_getElem? h1)
        subst hp
        cases ov with
        | none => rfl
        | some w => exact True.intro
end
end Ab
/-! Ab: kinds of data, rows and tables. -/
namespace Ab
open PySem PySem.Spec PyProof.Rows L2

def D.isInt : D → Bool
  | .int _ => true
  | .bl _ => true
  | _ => false
def D.isBl : D → Bool
  | .bl _ => true
  | _ => false
def D.isStr : D → Bool
  | .str _ => true
  | _ => false
def D.isTup : D → Bool
  | .tup _ => true
  | _ => false
def D.isLst : D → Bool
  | .lst _ => true
  | _ => false
def D.isNum : D → Bool
  | .int _ => true
  | _ => false
theorem kit_int : ∀ {d : D}, kitB d.ty "int" = some d.isInt
  | .non => (by decide +kernel : kitB "NoneType" "int" = some false)
  | .bl _ => (by decide +kernel : kitB "bool" "int" = some true)
  | .int _ => (by decide +kernel : kitB "int" "int" = some true)
  | .str _ => (by decide +kernel : kitB "str" "int" = some false)
  | .tup _ => (by decide +kernel : kitB "tuple" "int" = some false)
  | .lst _ => (by decide +kernel : kitB "list" "int" = some false)
  | .dct _ _ => (by decide +kernel : kitB "dict" "int" = some false)
theorem kit_bool : ∀ {d : D}, kitB d.ty "bool" = some d.isBl
  | .non => (by decide +kernel : kitB "NoneType" "bool" = some false)
  | .bl _ => (by decide +kernel : kitB "bool" "bool" = some true)
  | .int _ => (by decide +kernel : kitB "int" "bool" = some false)
  | .str _ => (by decide +kernel : kitB "str" "bool" = some false)
  | .tup _ => (by decide +kernel : kitB "tuple" "bool" = some false)
  | .lst _ => (by decide +kernel : kitB "list" "bool" = some false)
  | .dct _ _ => (by decide +kernel : kitB "dict" "bool" = some false)
theorem kit_str : ∀ {d : D}, kitB d.ty "str" = some d.isStr
  | .non => (by decide +kernel : kitB "NoneType" "str" = some false)
  | .bl _ => (by decide +kernel : kitB "bool" "str" = some false)
  | .int _ => (by decide +kernel : kitB "int" "str" = some false)
  | .str _ => (by decide +kernel : kitB "str" "str" = some true)
  | .tup _ => (by decide +kernel : kitB "tuple" "str" = some false)
  | .lst _ => (by decide +kernel : kitB "list" "str" = some false)
  | .dct _ _ => (by decide +kernel : kitB "dict" "str" = some false)
theorem kit_tuple : ∀ {d : D}, kitB d.ty "tuple" = some d.isTup
  | .non => (by decide +kernel : kitB "NoneType" "tuple" = some false)
  | .bl _ => (by decide +kernel : kitB "bool" "tuple" = some false)
  | .int _ => (by decide +kernel : kitB "int" "tuple" = some false)
  | .str _ => (by decide +kernel : kitB "str" "tuple" = some false)
  | .tup _ => (by decide +kernel : kitB "tuple" "tuple" = some true)
  | .lst _ => (by decide +kernel : kitB "list" "tuple" = some false)
  | .dct _ _ => (by decide +kernel : kitB "dict" "tuple" = some false)
theorem kit_list : ∀ {d : D}, kitB d.ty "list" = some d.isLst
  | .non => (by decide +kernel : kitB "NoneType" "list" = some false)
  | .bl _ => (by decide +kernel : kitB "bool" "list" = some false)
  | .int _ => (by decide +kernel : kitB "int" "list" = some false)
  | .str _ => (by decide +kernel : kitB "str" "list" = some false)
  | .tup _ => (by decide +kernel : kitB "tuple" "list" = some false)
  | .lst _ => (by decide +kernel : kitB "list" "list" = some true)
  | .dct _ _ => (by decide +kernel : kitB "dict" "list" = some false)
section
variable {C : Cc} {E : List O} {M M1 M2 M' : Mem} {o : O} {a b : Expr} {pos p pt : Pos} {d : D} {x T : Str} {i j : Int} {k : Bool}
theorem EV.isInt (h : EV C a E M (.dat d) M') (hm : Bt C.g "isinstance") (hT : Bt C.g "int") (hx : x = "isinstance" := by rfl) (hy : T = "int" := by rfl) (hg : C.sc.names.lookup x = some .globalImplicit := by rfl) (hgT : C.sc.names.lookup T = some .globalImplicit := by rfl) (hs : ∀ env, starEach [a, .Name T pt] env = (false, eval a env) :: starEach [.Name T pt] env := by intro _; rfl) : EV C (.Call (.Name x p) [a, .Name T pt] [] pos) E M (.dat (.bl d.isInt)) M' := by
  subst hx hy; exact EV.isi h hm hT bv_int kit_int rfl hg hgT (by decide) (by decide) (by decide) (by decide) hs
theorem EV.isBool (h : EV C a E M (.dat d) M') (hm : Bt C.g "isinstance") (hT : Bt C.g "bool") (hx : x = "isinstance" := by rfl) (hy : T = "bool" := by rfl) (hg : C.sc.names.lookup x = some .globalImplicit := by rfl) (hgT : C.sc.names.lookup T = some .globalImplicit := by rfl) (hs : ∀ env, starEach [a, .Name T pt] env = (false, eval a env) :: starEach [.Name T pt] env := by intro _; rfl) : EV C (.Call (.Name x p) [a, .Name T pt] [] pos) E M (.dat (.bl d.isBl)) M' := by
  subst hx hy; exact EV.isi h hm hT bv_bool kit_bool rfl hg hgT (by decide) (by decide) (by decide) (by decide) hs
theorem EV.isStr (h : EV C a E M (.dat d) M') (hm : Bt C.g "isinstance") (hT : Bt C.g "str") (hx : x = "isinstance" := by rfl) (hy : T = "str" := by rfl) (hg : C.sc.names.lookup x = some .globalImplicit := by rfl) (hgT : C.sc.names.lookup T = some .globalImplicit := by rfl) (hs : ∀ env, starEach [a, .Name T pt] env = (false, eval a env) :: starEach [.Name T pt] env := by intro _; rfl) : EV C (.Call (.Name x p) [a, .Name T pt] [] pos) E M (.dat (.bl d.isStr)) M' := by
  subst hx hy; exact EV.isi h hm hT bv_str kit_str rfl hg hgT (by decide) (by decide) (by decide) (by decide) hs
theorem EV.isTuple (h : EV C a E M (.dat d) M') (hm : Bt C.g "isinstance") (hT : Bt C.g "tuple") (hx : x = "isinstance" := by rfl) (hy : T = "tuple" := by rfl) (hg : C.sc.names.lookup x = some .globalImplicit := by rfl) (hgT : C.sc.names.lookup T = some .globalImplicit := by rfl) (hs : ∀ env, starEach [a, .Name T pt] env = (false, eval a env) :: starEach [.Name T pt] env := by intro _; rfl) : EV C (.Call (.Name x p) [a, .Name T pt] [] pos) E M (.dat (.bl d.isTup)) M' := by
  subst hx hy; exact EV.isi h hm hT bv_tuple kit_tuple rfl hg hgT (by decide) (by decide) (by decide) (by decide) hs
theorem EV.isList (h : EV C a E M (.dat d) M') (hm : Bt C.g "isinstance") (hT : Bt C.g "list") (hx : x = "isinstance" := by rfl) (hy : T = "list" := by rfl) (hg : C.sc.names.lookup x = some .globalImplicit := by rfl) (hgT : C.sc.names.lookup T = some .globalImplicit := by rfl) (hs : ∀ env, starEach [a, .Name T pt] env = (false, eval a env) :: starEach [.Name T pt] env := by intro _; rfl) : EV C (.Call (.Name x p) [a, .Name T pt] [] pos) E M (.dat (.bl d.isLst)) M' := by
  subst hx hy; exact EV.isi h hm hT bv_list kit_list rfl hg hgT (by decide) (by decide) (by decide) (by decide) hs
end
/-- built-in names that stand -/
structure Bs (g : Pg) : Prop where
  len : Bt g "len"
  sum : Bt g "sum"
  all : Bt g "all"
  any : Bt g "any"
  abs : Bt g "abs"
  min : Bt g "min"
  max : Bt g "max"
  int : Bt g "int"
  bool : Bt g "bool"
  str : Bt g "str"
  tuple : Bt g "tuple"
  list : Bt g "list"
  range : Bt g "range"
  zip : Bt g "zip"
  enumerate : Bt g "enumerate"
  isinstance : Bt g "isinstance"
  reversed : Bt g "reversed"
  sorted : Bt g "sorted"

/-! ### relations -/
def P1 (F : D → D → Prop) : Rel := fun os M o M' => ∃ d r, os = [.dat d] ∧ M = [] ∧ o = .dat r ∧ M' = [] ∧ F d r
def P2 (F : D → D → D → Prop) : Rel := fun os M o M' => ∃ d e r, os = [.dat d, .dat e] ∧ M = [] ∧ o = .dat r ∧ M' = [] ∧ F d e r
def P3 (F : D → D → D → D → Prop) : Rel := fun os M o M' => ∃ d e f r, os = [.dat d, .dat e, .dat f] ∧ M = [] ∧ o = .dat r ∧ M' = [] ∧ F d e f r
section
variable {C : Cc} {E : List O} {M M1 M2 M3 M' : Mem} {a b c : Expr} {pos p : Pos} {d e f r : D} {x : Str} {k : Nat}
theorem FN.mk1 {g : Pg} {st : Stmt} {N : List Str} {y : Str} {F : D → D → Prop} (T : TxtF g x st) (S : FnScope N [y] (defScope st))
    (hb : ∀ (kV doc pm : Value) (an : Option Addr) (cdv ct : Value) (us : List Value), us.length = 1 → bindArgs (PySem.W.fnOf x x (defArgs st) (defBody st) (defScope st) .none kV doc pm an cdv ct) ⟨us, []⟩ = pure ([y].zip us))
    (body : ∀ d r, F d r → SB (mkC g N st k) (defBody st) (pad N [.dat d]) [] (.rt (.dat r) [])) : FN g x (k + 1) (P1 F) :=
  FN.mk T S hb (fun os M o M' h => by obtain ⟨d, r, rfl, _⟩ := h; rfl) (fun os M o M' h => by obtain ⟨d, r, rfl, rfl, rfl, rfl, h⟩ := h; exact body d r h)
theorem FN.mk2 {g : Pg} {st : Stmt} {N : List Str} {y z : Str} {F : D → D → D → Prop} (T : TxtF g x st) (S : FnScope N [y, z] (defScope st))
    (hb : ∀ (kV doc pm : Value) (an : Option Addr) (cdv ct : Value) (us : List Value), us.length = 2 → bindArgs (PySem.W.fnOf x x (defArgs st) (defBody st) (defScope st) .none kV doc pm an cdv ct) ⟨us, []⟩ = pure ([y, z].zip us))
    (body : ∀ d e r, F d e r → SB (mkC g N st k) (defBody st) (pad N [.dat d, .dat e]) [] (.rt (.dat r) [])) : FN g x (k + 1) (P2 F) :=
  FN.mk T S hb (fun os M o M' h => by obtain ⟨d, e, r, rfl, _⟩ := h; rfl) (fun os M o M' h => by obtain ⟨d, e, r, rfl, rfl, rfl, rfl, h⟩ := h; exact body d e r h)
theorem FN.mk3 {g : Pg} {st : Stmt} {N : List Str} {y z u : Str} {F : D → D → D → D → Prop} (T : TxtF g x st) (S : FnScope N [y, z, u] (defScope st))
    (hb : ∀ (kV doc pm : Value) (an : Option Addr) (cdv ct : Value) (us : List Value), us.length = 3 → bindArgs (PySem.W.fnOf x x (defArgs st) (defBody st) (defScope st) .none kV doc pm an cdv ct) ⟨us, []⟩ = pure ([y, z, u].zip us))
    (body : ∀ d e f r, F d e f r → SB (mkC g N st k) (defBody st) (pad N [.dat d, .dat e, .dat f]) [] (.rt (.dat r) [])) : FN g x (k + 1) (P3 F) :=
  FN.mk T S hb (fun os M o M' h => by obtain ⟨d, e, f, r, rfl, _⟩ := h; rfl) (fun os M o M' h => by obtain ⟨d, e, f, r, rfl, rfl, rfl, rfl, h⟩ := h; exact body d e f r h)
theorem EV.c1 {F : D → D → Prop} (H : FN C.g x k (P1 F)) (ha : EV C a E M (.dat d) M') (hF : F d r) (hk : Nat.ble k C.k = true := by rfl) (hg : C.sc.names.lookup x = some .globalImplicit := by rfl) (hdb : (x == ("__debug__" : Str)) = false := by decide) (he : ∀ env, starEach [a] env = (false, eval a env) :: starEach [] env := by intro _; rfl) : EV C (.Call (.Name x p) [a] [] pos) E M (.dat r) M' :=
  EV.call (ds := [d]) H (EA.cons ha EA.nil he) ⟨d, r, rfl, rfl, rfl, rfl, hF⟩ hk hg hdb he (fun _ => rfl)
theorem EV.c2 {F : D → D → D → Prop} (H : FN C.g x k (P2 F)) (ha : EV C a E M (.dat d) M1) (hb : EV C b E M1 (.dat e) M') (hF : F d e r) (hk : Nat.ble k C.k = true := by rfl) (hg : C.sc.names.lookup x = some .globalImplicit := by rfl) (hdb : (x == ("__debug__" : Str)) = false := by decide)
    (he : ∀ env, starEach [a, b] env = (false, eval a env) :: starEach [b] env := by intro _; rfl) (he2 : ∀ env, starEach [b] env = (false, eval b env) :: starEach [] env := by intro _; rfl) (hpl : ∀ env, (backTo pos (starEach [b] env)).any (·.1) = false := by intro _; rfl) : EV C (.Call (.Name x p) [a, b] [] pos) E M (.dat r) M' :=
  EV.call (ds := [d, e]) H (EA.cons ha (EA.cons hb EA.nil he2) he) ⟨d, e, r, rfl, rfl, rfl, rfl, hF⟩ hk hg hdb he hpl
theorem EV.c3 {F : D → D → D → D → Prop} (H : FN C.g x k (P3 F)) (ha : EV C a E M (.dat d) M1) (hb : EV C b E M1 (.dat e) M2) (hc : EV C c E M2 (.dat f) M') (hF : F d e f r) (hk : Nat.ble k C.k = true := by rfl) (hg : C.sc.names.lookup x = some .globalImplicit := by rfl) (hdb : (x == ("__debug__" : Str)) = false := by decide)
    (he : ∀ env, starEach [a, b, c] env = (false, eval a env) :: starEach [b, c] env := by intro _; rfl) (he2 : ∀ env, starEach [b, c] env = (false, eval b env) :: starEach [c] env := by intro _; rfl) (he3 : ∀ env, starEach [c] env = (false, eval c env) :: starEach [] env := by intro _; rfl) (hpl : ∀ env, (backTo pos (starEach [b, c] env)).any (·.1) = false := by intro _; rfl) : EV C (.Call (.Name x p) [a, b, c] [] pos) E M (.dat r) M' :=
  EV.call (ds := [d, e, f]) H (EA.cons ha (EA.cons hb (EA.cons hc EA.nil he3) he2) he) ⟨d, e, f, r, rfl, rfl, rfl, rfl, hF⟩ hk hg hdb he hpl
end

/-- a def that falls through -/
theorem FN.mkN1 {g : Pg} {st : Stmt} {N : List Str} {y x : Str} {k : Nat} {F : D → D → Prop} (T : TxtF g x st) (S : FnScope N [y] (defScope st))
    (hb : ∀ (kV doc pm : Value) (an : Option Addr) (cdv ct : Value) (us : List Value), us.length = 1 → bindArgs (PySem.W.fnOf x x (defArgs st) (defBody st) (defScope st) .none kV doc pm an cdv ct) ⟨us, []⟩ = pure ([y].zip us))
    (body : ∀ d r, F d r → r = .non ∧ ∃ E', SB (mkC g N st k) (defBody st) (pad N [.dat d]) [] (.nx E' [])) : FN g x (k + 1) (P1 F) := FN.mkNx T S hb (fun os M o M' h => by obtain ⟨d, r, rfl, _⟩ := h; rfl) (fun os M o M' h => by
  obtain ⟨d, r, rfl, rfl, rfl, rfl, h⟩ := h
  obtain ⟨e1, h1⟩ := body d r h
  exact ⟨congrArg O.dat e1, h1⟩)
theorem FN.mkN3 {g : Pg} {st : Stmt} {N : List Str} {y z u x : Str} {k : Nat} {F : D → D → D → D → Prop} (T : TxtF g x st) (S : FnScope N [y, z, u] (defScope st))
    (hb : ∀ (kV doc pm : Value) (an : Option Addr) (cdv ct : Value) (us : List Value), us.length = 3 → bindArgs (PySem.W.fnOf x x (defArgs st) (defBody st) (defScope st) .none kV doc pm an cdv ct) ⟨us, []⟩ = pure ([y, z, u].zip us))
    (body : ∀ d e f r, F d e f r → r = .non ∧ ∃ E', SB (mkC g N st k) (defBody st) (pad N [.dat d, .dat e, .dat f]) [] (.nx E' [])) : FN g x (k + 1) (P3 F) := FN.mkNx T S hb (fun os M o M' h => by obtain ⟨d, e, f, r, rfl, _⟩ := h; rfl) (fun os M o M' h => by
  obtain ⟨d, e, f, r, rfl, rfl, rfl, rfl, h⟩ := h
  obtain ⟨e1, h1⟩ := body d e f r h
  exact ⟨congrArg O.dat e1, h1⟩)

/-! ### rows and tables -/
abbrev tV (v : List Int) : D := .tup (v.map .int)
abbrev tM (m : List (List Int)) : D := .tup (m.map tV)
abbrev lV (v : List Int) : D := .lst (v.map .int)
abbrev lM (m : List (List Int)) : D := .lst (m.map lV)
end Ab
/-! Ab: cells lent to be read; the script; members. -/
namespace Ab
open PySem PySem.Spec PyProof.Rows L2

/-! ### a cell seen as data -/
mutual
inductive View (M : Mem) : O → D → Prop
  | dat (d : D) : View M (.dat d) d
  | cel {k : Nat} {os : List O} {ds : List D} (h : M[k]? = some (some os)) (r : Views M os ds) : View M (.adr k) (.lst ds)
inductive Views (M : Mem) : List O → List D → Prop
  | nil : Views M [] []
  | cons {o : O} {os : List O} {d : D} {ds : List D} (h : View M o d) (r : Views M os ds) : Views M (o :: os) (d :: ds)
end
mutual
inductive NoL : D → Prop
  | non : NoL .non
  | bl (b : Bool) : NoL (.bl b)
  | int (i : Int) : NoL (.int i)
  | str (s : Str) : NoL (.str s)
  | tup {ds : List D} (h : NoLs ds) : NoL (.tup ds)
inductive NoLs : List D → Prop
  | nil : NoLs []
  | cons {d : D} {ds : List D} (h : NoL d) (r : NoLs ds) : NoLs (d :: ds)
end
theorem NoLs.all : ∀ {ds : List D}, (∀ d ∈ ds, NoL d) → NoLs ds
  | [], _ => .nil
  | _ :: _, h => .cons (h _ List.mem_cons_self) (NoLs.all fun d hd => h d (List.mem_cons_of_mem _ hd))
theorem NoL.ints (v : List Int) : NoL (tV v) := .tup (NoLs.all fun d hd => by
  obtain ⟨i, _, rfl⟩ := List.mem_map.mp hd
  exact .int i)
theorem NoL.mat (m : List (List Int)) : NoL (tM m) := .tup (NoLs.all fun d hd => by
  obtain ⟨i, _, rfl⟩ := List.mem_map.mp hd
  exact NoL.ints i)
theorem Views.ints {M : Mem} : ∀ v : List D, Views M (v.map .dat) v
  | [] => .nil
  | _ :: v => .cons (.dat _) (Views.ints v)
mutual
theorem rep_back {I I' : Hp} (f : ∀ a xs, I a = some (.tup xs) → I' a = some (.tup xs)) : ∀ {d : D} {v : V}, NoL d → Rep I d v → Rep I' d v
  | _, _, .non, .non => .non
  | _, _, .bl _, .bl b => .bl b
  | _, _, .int _, .int i => .int i
  | _, _, .str _, .str s => .str s
  | _, _, .tup n, .tup h r => .tup (f _ _ h) (reps_back f n r)
theorem reps_back {I I' : Hp} (f : ∀ a xs, I a = some (.tup xs) → I' a = some (.tup xs)) : ∀ {ds : List D} {vs : List V}, NoLs ds → Reps I ds vs → Reps I' ds vs
  | _, _, .nil, .nil => .nil
  | _, _, .cons n m, .cons h r => .cons (rep_back f n h) (reps_back f m r)
end
mutual
theorem view_rep {I I' H : Hp} {adr : List Addr} {M : Mem} (s : Sto I H adr M) (e : Ex I I') (f : ∀ (k : Nat) (a : Addr) (os : List O), adr[k]? = some a → M[k]? = some (some os) → I' a = H a) : ∀ {o : O} {d : D} {v : V}, View M o d → Vo I adr o v → Rep I' d v
  | _, _, _, .dat d, h => Rep.mono e h
  | _, _, _, .cel (k := k) hm r, h => by
    obtain ⟨a, h1, rfl⟩ := h
    obtain ⟨_, xs, h2, h3⟩ := s.cell k a _ h1 hm
    exact .lst ((f k a _ h1 hm).trans h2) (views_rep s e f r h3)
theorem views_rep {I I' H : Hp} {adr : List Addr} {M : Mem} (s : Sto I H adr M) (e : Ex I I') (f : ∀ (k : Nat) (a : Addr) (os : List O), adr[k]? = some a → M[k]? = some (some os) → I' a = H a) : ∀ {os : List O} {ds : List D} {vs : List V}, Views M os ds → Vs I adr os vs → Reps I' ds vs
  | _, _, _, .nil, .nil => .nil
  | _, _, _, .cons h r, .cons q w => .cons (view_rep s e f h q) (views_rep s e f r w)
end
open Classical in
theorem ev_lend {R : Rel} {E : List O} {M M1 : Mem} {os : List O} {ds : List D} {d : D} {ta : TA} {E' : XK} (ha : Ea ta E M os M1) (hv : Views M1 os ds) (hR : R (ds.map .dat) [] (.dat d) []) (hn : NoL d) :
    Ev (tCall (spR R) [] E' ta) E M (.dat d) M1 := fun I H adr σ Q s q => ha I H adr σ _ s fun vs I1 H1 adr1 s1 g1 v1 => by
  let L : Addr → Prop := fun p => ∃ (k : Nat) (os : List O), adr1[k]? = some p ∧ M1[k]? = some (some os)
  let J : Hp := fun p => if L p then H1 p else I1 p
  have eJ : Ex I1 J := fun p o h => by
    show (if L p then H1 p else I1 p) = some o
    split
    · exact s1.ex p o h
    · exact h
  have eH : Ex J H1 := fun p o h => by
    have h' : (if L p then H1 p else I1 p) = some o := h
    split at h'
    · exact h'
    · exact s1.ex p o h'
  have fJ : ∀ (k : Nat) (a : Addr) (os : List O), adr1[k]? = some a → M1[k]? = some (some os) → J a = H1 a := fun k a os h1 h2 => if_pos ⟨k, os, h1, h2⟩
  show spR R (vs ++ []) H1 Q E'
  rw [List.append_nil]
  refine ⟨J, [], ds.map .dat, [], .dat d, [], hR, eH, ⟨rfl, List.nodup_nil, fun k a os h1 _ => by simp at h1, fun k a h1 => by simp at h1⟩, Vs.reps (views_rep s1.sto eJ fJ hv v1), fun z I2 H2 adr2 ex2 sto2 g2 v2 => ?_⟩
  let I3 : Hp := fun p => if L p then none else I2 p
  have nI : ∀ p, L p → I1 p = none := fun p hp => by
    obtain ⟨k, os, h1, h2⟩ := hp
    exact (s1.sto.cell k p os h1 h2).1
  have e3 : Ex I1 I3 := fun p o h => by
    have hp : ¬ L p := fun hl => by rw [nI p hl] at h; cases h
    show (if L p then none else I2 p) = some o
    rw [if_neg hp]
    exact g2.ex p o (eJ p o h)
  have e3H : Ex I3 H2 := fun p o h => by
    have h' : (if L p then none else I2 p) = some o := h
    split at h'
    · cases h'
    · exact ex2 p o h'
  have keep : ∀ p u, H1 p = some u → H2 p = some u := fun p u h => g2.keep p u h (by simp)
  have g3 : Grow I1 H1 adr1 I3 H2 adr1 := ⟨e3, ⟨[], by simp, by simp⟩, fun p u h _ => keep p u h, g2.dom, fun p u h h2 h3 => by
    have hp : ¬ L p := fun hl => by
      obtain ⟨k, os, h4, _⟩ := hl
      exact h3 (List.mem_of_getElem? h4)
    show (if L p then none else I2 p) = none
    rw [if_neg hp]
    exact g2.out p u h (by show (if L p then H1 p else I1 p) = none; rw [if_neg hp]; exact h2) (by simp)⟩
  have t3 : Sto I3 H2 adr1 M1 := ⟨s1.sto.len, s1.sto.nd, fun k a os h1 h2 => by
    obtain ⟨_, xs, h4, h5⟩ := s1.sto.cell k a os h1 h2
    exact ⟨if_pos ⟨k, os, h1, h2⟩, xs, keep a _ h4, h5.ext e3⟩, fun k a h => by
    obtain ⟨u, hu⟩ := s1.sto.dom k a h
    exact ⟨u, keep a u hu⟩⟩
  refine q z I3 H2 adr1 (s1.mono g3 e3H t3) (g1.trans g3) (rep_back (fun a xs h => ?_) hn v2)
  have hp : ¬ L a := fun hl => by
    obtain ⟨k, os, h1, h2⟩ := hl
    obtain ⟨_, ys, h4, _⟩ := s1.sto.cell k a os h1 h2
    have h5 := g2.ex a _ ((fJ k a os h1 h2).trans h4)
    rw [h] at h5
    cases h5
  show (if L a then none else I2 a) = _
  rw [if_neg hp]
  exact h
section
variable {C : Cc} {E E1 E2 E' : List O} {M M1 M2 M3 M' : Mem} {o o1 o2 o3 : O} {os : List O} {e a b c : Expr} {es : List Expr} {pos pos' p p2 pos2 : Pos} {d d1 d2 : D} {i j : Int} {n : Nat} {k k' : Bool} {r : Out} {body : List Stmt} {x y : Str} {ds : List D}
theorem EV.lend {R : Rel} {kf : Nat} {ds : List D} (F : FN C.g x kf R) (ha : EA C (e :: es) E M os M1) (hv : Views M1 os ds) (hR : R (ds.map .dat) [] (.dat d) []) (hn : NoL d) (hk : Nat.ble kf C.k = true := by rfl)
    (hg : C.sc.names.lookup x = some .globalImplicit := by rfl) (hdb : (x == ("__debug__" : Str)) = false := by decide) (he : ∀ env, starEach (e :: es) env = (false, eval e env) :: starEach es env := by intro _; rfl) (hpl : ∀ env, (backTo pos (starEach es env)).any (·.1) = false := by intro _; rfl) :
    EV C (.Call (.Name x p) (e :: es) [] pos) E M (.dat d) M1 := by
  obtain ⟨f, fd, ps, F, hm, hkp, hb⟩ := F
  refine EV.mk (t := tCall (spR R) [] E0 (UA C (e :: es))) (fun X hX => ?_) (ev_lend ha hv hR hn)
  refine pe_call (k := kf) (f := f) (fd := fd) (ps := ps) (by rw [hX.P, hX.w, hX.K, hX.mg, hX.base]; exact F) (hX.room.mono (Nat.le_of_ble_eq_true hk)) (by show X.env.scope.names.lookup x = _; rw [hX.sc]; exact hg) (by rw [hX.mg]; exact hm) (by rw [hX.K]; exact hkp) (by rw [hX.K]; exact hb) .nil pass0 (ua hX _) hdb (he X.env) (hpl X.env)
/-- a def that makes cells -/
theorem EV.callM {R : Rel} {kf : Nat} {ds : List D} {o0 : O} {M0' : Mem} (F : FN C.g x kf R) (ha : EA C (e :: es) E M (ds.map .dat) M1) (hR : R (ds.map .dat) [] o0 M0') (hq : o = o0.ren (fun k => M1.length + k)) (hM : M2 = M1 ++ M0'.map fun c => c.map fun ps => ps.map (·.ren fun k => M1.length + k)) (hk : Nat.ble kf C.k = true := by rfl)
    (hg : C.sc.names.lookup x = some .globalImplicit := by rfl) (hdb : (x == ("__debug__" : Str)) = false := by decide) (he : ∀ env, starEach (e :: es) env = (false, eval e env) :: starEach es env := by intro _; rfl) (hpl : ∀ env, (backTo pos (starEach es env)).any (·.1) = false := by intro _; rfl) :
    EV C (.Call (.Name x p) (e :: es) [] pos) E M o M2 := by
  have er : rho [] M1.length = fun k => M1.length + k := by
    funext k
    show M1.length + (k - 0) = _
    rw [Nat.sub_zero]
  subst hq hM
  rw [← er]
  refine EV.callG (ι := []) F ha hR (by rw [ren_dat]) ⟨rfl, List.nodup_nil, ?_, fun i k h => by simp at h, fun k os h => ?_⟩ hk hg hdb he hpl
  · rw [List.length_append, List.length_map]
    rfl
  · by_cases hk : k < M1.length
    · rw [List.getElem?_append_left hk] at h
      exact .inl ⟨by simp, h⟩
    · rw [List.getElem?_append_right (Nat.le_of_not_lt hk), List.getElem?_map] at h
      cases hc : M0'[k - M1.length]? with
      | none => rw [hc] at h; cases h
      | some c =>
        rw [hc] at h
        cases c with
        | none => cases h
        | some ps =>
          refine .inr ⟨k - M1.length, ps, ?_, .inr (Nat.zero_le _), hc, (Option.some.inj (Option.some.inj h)).symm⟩
          rw [er]
          show M1.length + (k - M1.length) = k
          omega

/-! ### the script -/
def Scr (K : PySem.W.Frag) (o : O) (xs : List V) : Prop := ∃ (a : Addr) (u : Option HO), o = .scr a u ∧ ∀ H : Hp, (∀ h, u = some h → H a = some h) → SqL K H a xs
theorem scr_sq {K : PySem.W.Frag} {xs : List V} {I H : Hp} {adr : List Addr} {v : V} (h : Scr K o xs) (hv : Vo I adr o v) (e : Ex I H) : ∃ a, v = .ref a ∧ SqL K H a xs := by
  obtain ⟨a, u, rfl, q⟩ := h
  exact ⟨a, hv.1, q H fun o' ho => e _ _ (hv.2 o' ho)⟩
theorem reps_ints {I : Hp} : ∀ ns : List Int, Reps I (ns.map D.int) (ns.map V.int)
  | [] => .nil
  | n :: ns => .cons (.int n) (reps_ints ns)
theorem EV.ixS {ns : List Int} (ha : EV C a E M o M1) (hb : EV C b E M1 (.dat (.int i)) M') (hs : Scr C.g.K o (ns.map V.int)) (h : atI (ns.map D.int) i = some d) (hp : PlainIx b := by exact fun _ _ => rfl) : EV C (.Subscript a b pos) E M (.dat d) M' :=
  EV.mk (t := tOp (rIx C.g.K) (UE C a) (UE C b)) (fun X hX => by
    have := pe_ix (pos := pos) ix_seq (ue hX a) (ue hX b) hp
    rw [hX.K] at this
    exact this) (ev_op ha hb fun I H adr σ E v w Q s hv hw q => by
      cases rep_int hw
      obtain ⟨p, rfl, hq⟩ := scr_sq hs hv s.ex
      obtain ⟨x, e1, e2⟩ := reps_atI (reps_ints (I := I) ns) h
      exact .inl ⟨p, _, i, x, rfl, rfl, hq, e1, q x I H adr s Grow.refl e2⟩)
theorem EV.slS {ns : List Int} {lo hi : Option Expr} {l u : Option Int} (ha : EV C a E M o M1) (hl : EO C lo E M1 l M2) (hh : EO C hi E M2 u M') (hs : Scr C.g.K o (ns.map V.int)) : EV C (.Subscript a (.Slice lo hi none p) pos) E M (.dat (.lst (cutD (ns.map D.int) l u))) M' :=
  EV.mk (t := tSl (rSlL C.g.K) (UE C a) (UO C lo) (UO C hi)) (fun X hX => by
    have := pe_slice (p2 := p) (pos := pos) (sl_list (X := X)) (ue hX a) (uo hX lo) (uo hX hi)
    rw [hX.K] at this
    exact this) fun I H adr σ Q s q => ha I H adr σ _ s fun v I1 H1 adr1 s1 g1 v1 => hl I1 H1 adr1 σ _ s1 fun I2 H2 adr2 s2 g2 => hh I2 H2 adr2 σ _ s2 fun I3 H3 adr3 s3 g3 => by
      obtain ⟨b, rfl, hq⟩ := scr_sq hs ((v1.mono g2).mono g3) s3.ex
      refine ⟨b, _, rfl, hq, fun p hp => ?_⟩
      obtain ⟨s4, g4, r4⟩ := s3.lst hp (reps_cut (reps_ints (I := I3) ns) l u)
      exact q _ _ _ _ s4 (((g1.trans g2).trans g3).trans g4) r4

/-! ### members -/
def inI (i : Int) (ns : List Int) : Bool := ns.any fun n => n == i
theorem inV_ints {i : Int} : ∀ ns : List Int, inV (.int i) (ns.map V.int) = inI i ns
  | [] => rfl
  | n :: ns => by
    show (eqV (.int n) (.int i) || inV (.int i) (ns.map V.int)) = (n == i || inI i ns)
    rw [inV_ints ns]
    rfl
theorem flat_ints (ns : List Int) : (ns.map V.int).all flatV = true := by
  rw [List.all_map, List.all_eq_true]
  intro x _
  rfl
theorem CS.inI {ns : List Int} : CS C .In (.dat (.int i)) (.dat (.lst (ns.map .int))) M (.dat (.bl (inI i ns))) M := ⟨rIn C.g.K false, fun X hX => by
  have := op_in_seq (X := X)
  rw [hX.K] at this
  exact this, fun I H adr σ E v w Q s hv hw q => by
  cases rep_int hv
  cases (show Rep I (.lst (ns.map .int)) w from hw) with
  | @lst p xs _ hp hr =>
    have e := reps_int hr
    subst e
    refine ⟨p, _, rfl, .inl (.inl (.inl (s.ex _ _ hp))), rfl, flat_ints ns, ?_⟩
    show Q (.bl (inV _ _)) H
    rw [inV_ints]
    exact q _ I H adr s Grow.refl (.bl _)⟩
theorem CS.notInI {ns : List Int} : CS C .NotIn (.dat (.int i)) (.dat (.lst (ns.map .int))) M (.dat (.bl (!Ab.inI i ns))) M := ⟨rIn C.g.K true, fun X hX => by
  have := op_notIn_seq (X := X)
  rw [hX.K] at this
  exact this, fun I H adr σ E v w Q s hv hw q => by
  cases rep_int hv
  cases (show Rep I (.lst (ns.map .int)) w from hw) with
  | @lst p xs _ hp hr =>
    have e := reps_int hr
    subst e
    refine ⟨p, _, rfl, .inl (.inl (.inl (s.ex _ _ hp))), rfl, flat_ints ns, ?_⟩
    show Q (.bl (!inV _ _)) H
    rw [inV_ints]
    exact q _ I H adr s Grow.refl (.bl _)⟩
end
end Ab
/-! Ab: enumerate over a tuple. -/
namespace Ab
open PySem PySem.Spec PyProof.Rows L2

theorem enum_new1 {v : Value} {ob : Obj} {Ho : Heap → Prop} (B : Begins v ob Ho) :
    Meets (Builtin.«enumerate.__new__» ⟨[.type "enumerate", v], []⟩) (fun _ R s => Ho s.heap ∧ R (.ok (.ret (.ref (s.heap.push ob).objs.size))) { s with heap := (s.heap.push ob).push { cls := .type "enumerate", data := .fields #[.none, .bool false, .ref s.heap.objs.size, rawInt 0, .none, .none] } }) :=
  .of_wp fun prog w A R s h => by
    obtain ⟨hp, gl, d, tk, os⟩ := s
    obtain ⟨h1, h⟩ := h
    have hsub := sub_enumerate
    have q1 : ∀ {A' : Around} {E' : Value → Shared → Prop} {Q' : Value → Shared → Prop}, Q' (.ref hp.objs.size) ⟨hp.push ob, gl, d, tk, os⟩ → wpAny (model prog w) A' (pyIter v) Q' E' ⟨hp, gl, d, tk, os⟩ := fun q => B.iter prog w _ _ ⟨hp, gl, d, tk, os⟩ _ h1 q
    wp_walk using q1
    refine wpAny_stack_any fun st => wpAny_pure ?_
    split
    · rename_i cc _ _ _ _ _
      cases (cc == Value.type "enumerate") <;> (wp_walk using q1; exact ⟨_, rfl, h⟩)
    · wp_walk using q1
      exact ⟨_, rfl, h⟩
section
variable {prog : Program} {w : World} {A : Around} {E : Value → Shared → Prop} {s : Shared}
theorem enum_call1 {v : Value} {ob : Obj} {Ho : Heap → Prop} {Q : Value → Shared → Prop} (B : Begins v ob Ho) (h1 : Ho s.heap)
    (h : ∀ h', IsEnum h' (s.heap.objs.size + 1) s.heap.objs.size 0 .none → h'.get? s.heap.objs.size = some ob → (∀ b o, s.heap.get? b = some o → h'.get? b = some o) → Q (.ref (s.heap.objs.size + 1)) { s with heap := h' }) : wpAny (model prog w) A (call (.type "enumerate") [v]) Q E s := by
  refine callType_new F.called_enumerate (by decide) (F.typeCall_enumerate_1 _) (F.newCall_enumerate_1 _) (fun obj => F.args_object_init_2 obj _) F.entry_enumerate_new (enum_new1 B) ⟨h1, ?_⟩
  have hz : (s.heap.push ob).objs.size = s.heap.objs.size + 1 := Heap.size_push ..
  show _ ∧ _
  rw [hz]
  have he : IsEnum ((s.heap.push ob).push { cls := .type "enumerate", data := .fields #[.none, .bool false, .ref s.heap.objs.size, rawInt 0, .none, .none] }) (s.heap.objs.size + 1) s.heap.objs.size 0 .none := by
    have z := Heap.get?_push_size (s.heap.push ob) (o := { cls := .type "enumerate", data := .fields #[.none, .bool false, .ref s.heap.objs.size, rawInt 0, .none, .none] }) rfl
    rw [hz] at z
    exact z
  exact ⟨⟨_, he, rfl⟩, h _ he (Heap.get?_push_of_some _ (Heap.get?_push_size _ B.free)) fun b o x => Heap.get?_push_of_some _ (Heap.get?_push_of_some _ x)⟩
end
def IteT (K : PySem.W.Frag) (a : Addr) : It :=
  ⟨fun i H => ∃ (xs : List V) (x : V), SqT K H a xs ∧ xs[i]? = some x, fun i H v H' => ∃ T x, v = .ref T ∧ H T = none ∧ H' = upd H T (.tup [.int (i : Nat), x]) ∧ ∀ xs, SqT K H a xs → xs[i]? = some x, fun i H => ∃ xs : List V, SqT K H a xs ∧ xs.length = i⟩
theorem apart_t {h : Heap} {a it : Addr} {i : Nat} {its : Array Value} (p : h.IsTuple a its) (q : h.IsTupleIter it a i) : a ≠ it := fun e => by
  subst e
  obtain ⟨o1, e1, c1, _⟩ := p
  obtain ⟨o2, e2, c2, _⟩ := q
  rw [e1] at e2
  cases e2
  rw [c1] at c2
  exact absurd c2 (by decide)
theorem apart_e {h : Heap} {a e it : Addr} {i : Int} {its : Array Value} {old : Value} (p : h.IsTuple a its) (q : IsEnum h e it i old) : e ≠ a := fun z => by
  subst z
  obtain ⟨o1, e1, c1, _⟩ := p
  have q' : h.get? e = some _ := q
  rw [e1] at q'
  cases q'
  exact absurd (show Value.type "enumerate" = Value.type "tuple" from c1) (by decide)
theorem turn_enumT {P : Program} {w : World} {K : PySem.W.Frag} {elts : List Expr} {kk : Nat} {tpos : Pos} (a e it : Addr) :
    Turn P w K (.Tuple elts kk tpos) (IteT K a) [e, it] e (fun i h => (∃ old, IsEnum h e it ((i : Nat) : Int) old) ∧ h.IsTupleIter it a i ∧ e ≠ it) where
  mem := by simp
  obj := fun i h st b hb => by
    obtain ⟨⟨old, he⟩, ⟨o, ho, hc, hd⟩, _⟩ := st
    rcases (show b = e ∨ b = it by simpa using hb) with z | z
    · subst z
      exact ⟨_, he, fun v q => nomatch q⟩
    · subst z
      exact ⟨o, ho, fun v q => by rw [hd] at q; cases q⟩
  keep := fun i h h' st k => let ⟨⟨old, he⟩, hi, hne⟩ := st; ⟨⟨old, k e (by simp) _ he⟩, hi.at fun o q => k it (by simp) o q, hne⟩
  item := by
    intro X hP hw hK hc i pins s σ H E I hf st hg
    subst hP hw hK
    obtain ⟨⟨old, he⟩, hit, hne⟩ := st
    obtain ⟨xs, x, hq, hx⟩ := hg
    obtain ⟨its, rv, p, hz⟩ := I.tuple hq
    obtain ⟨u, hu, ru⟩ := rv.get hx
    have pt : s.heap.IsTuple a its.toArray := p
    have hel : e < s.heap.objs.size := Heap.lt_size he
    have hil : it < s.heap.objs.size := by obtain ⟨_, q, _⟩ := hit; exact Heap.lt_size q
    have hlen : i < its.toArray.size := by
      have := (List.getElem?_eq_some_iff.mp hu).1
      simpa using this
    have D := Draws.tuple (prog := X.prog) (w := X.w) (A := X.A.in1) (I.ok.hd hc) it a (apart_t pt hit) its.toArray
    refine wpAny_pyNext_enum_itemC D he ⟨hit, pt⟩ hlen hne (by simp [hne, apart_e pt he]) fun y h' tk hy ho hs' hT hsz hk => ?_
    have ey : y = u := by
      have hy' : its.toArray[i]? = some y := hy
      rw [List.getElem?_toArray, hu] at hy'
      exact (Option.some.inj hy').symm
    subst ey
    refine ⟨_, rfl, wpAny_letOwnedTupleGo_enum (s := { s with heap := h', toks := tk + 1 }) ho fun h'' he' sb => ?_⟩
    have hT2 : h''.get? s.heap.objs.size = some { cls := .type "tuple", data := .seq #[.int (i : Nat) tk, y] } := (sb.2 _ (Nat.ne_of_gt hel)).trans hT
    have new : ObjOk X.prog X.w (upd H s.heap.objs.size (.tup [.int (i : Nat), x])) h'' s.heap.objs.size (.tup [.int (i : Nat), x]) := ⟨by show 2 ≤ sizeLine; decide, [.int (i : Nat) tk, y], .cons ⟨_, rfl⟩ (.cons ru .nil), ⟨_, hT2, rfl, _, rfl⟩⟩
    have I1 : Inv X pins σ (upd H s.heap.objs.size (.tup [.int (i : Nat), x])) { s with heap := h'', toks := tk + 1 } :=
      I.turnedNew (ch := [e, it]) (fun b ob hb q => (sb.2 b (fun z => hb (by simp [z]))).trans (hk b ob (fun z => hb (by simp [z])) (fun z => hb (by simp [z])) q)) hf (Nat.le_refl _) new
    refine ⟨.ref s.heap.objs.size, _, I1, rfl, ⟨_, x, rfl, I.hok.fresh (Nat.le_refl _), rfl, fun ys hy => by rw [I.tuple_inj hy hq]; exact hx⟩, ⟨⟨y, ?_⟩, hs'.1.at fun o q => (sb.2 it (Ne.symm hne)).trans q, hne⟩, fun b hb => ?_⟩
    · rw [show ((i + 1 : Nat) : Int) = (i : Int) + 1 by omega]
      exact he'
    · have hb' : b < s.heap.objs.size := by
        rcases (show b = e ∨ b = it by simpa using hb) with z | z
        · exact z ▸ hel
        · exact z ▸ hil
      rw [upd_ne (Nat.ne_of_lt hb')]
      exact (hf b hb).1
  done := by
    intro X hP hw hK hc i pins s σ H E I hf st hg
    subst hP hw hK
    obtain ⟨⟨old, he⟩, hit, hne⟩ := st
    obtain ⟨xs, hq, hx⟩ := hg
    obtain ⟨its, rv, p, hz⟩ := I.tuple hq
    have pt : s.heap.IsTuple a its.toArray := p
    obtain ⟨f0, f1, f2, f3, f4, f5⟩ := hf it (by simp)
    have hl : its.toArray.size = i := by
      have := rv.length
      simp
      omega
    have D := Draws.tuple (prog := X.prog) (w := X.w) (A := X.A.in1) (I.ok.hd hc) it a (apart_t pt hit) its.toArray
    exact wpAny_pyNext_enum_endD D he ⟨hl.symm ▸ hit, pt⟩ fun h' eb => ⟨rfl, I.turned (t' := s.toks) (fun b o hb q => eb b o hb q) f0 f1 f3 f4 f5⟩
  self := fun A i s Q E st h => let ⟨⟨_, he⟩, _⟩ := st; wpAny_pyIter_enum he h
def iEnumT (K : PySem.W.Frag) (ta : TA) : TI := fun σ H R => ta σ H fun vs H1 => ∃ a xs, vs = [.ref a] ∧ SqT K H1 a xs ∧ R (IteT K a) H1
theorem pi_enumT {X : Cx} {e : Expr} {ta : TA} {p pos tpos : Pos} {elts : List Expr} {kk : Nat} (hg : Gl X "enumerate") (hm : X.mg "enumerate" = none) (ha : PA X [e] ta) (hs : starEach [e] X.env = [(false, eval e X.env)] := by rfl) : PI X (.Tuple elts kk tpos) (.Call (.Name "enumerate" p) [e] [] pos) (iEnumT X.K ta) := by
  refine ⟨fun pins s σ H R I h => Call_ (ld_blt I hg hm boot_enumerate (PyProof.Rows.callWith_type1 (thn (ha.run pos pins s σ H _ I h) fun us s1 ⟨vs, H1, I1, r1, q1⟩ => ?_) hs rfl))⟩
  obtain ⟨a, xs, ex, hq, q⟩ := q1
  subst ex
  cases r1 with
  | cons r rr =>
    cases rr
    cases r
    obtain ⟨its, rv, p', hz⟩ := I1.tuple hq
    have pt : s1.heap.IsTuple a its.toArray := p'
    refine enum_call1 (begins_tuple a its.toArray) pt fun h' he hit hk => wpAny_pyIter_enum he ?_
    have I2 : Inv X pins σ H1 { s1 with heap := h' } := I1.kept (t' := s1.toks) hk
    refine ⟨s1.heap.objs.size + 1, [s1.heap.objs.size + 1, s1.heap.objs.size], _, _, H1, rfl, I2, turn_enumT a (s1.heap.objs.size + 1) s1.heap.objs.size, ⟨⟨.none, he⟩, ⟨_, hit, rfl, rfl⟩, Nat.succ_ne_self _⟩, fun b hb => ?_, q⟩
    have hle : s1.heap.objs.size ≤ b := by
      rcases (show b = s1.heap.objs.size + 1 ∨ b = s1.heap.objs.size by simpa using hb) with z | z
      · rw [z]
        exact Nat.le_add_right _ _
      · exact Nat.le_of_eq z.symm
    exact I1.fpOk hle (I1.hok.fresh hle)
def atN (ds : List D) (i : Nat) : O := .dat (.tup [.int (i : Int), ds.getD i .non])
section
variable {C : Cc} {E : List O} {M M1 : Mem} {a : Expr} {pos p : Pos}
theorem EI.enum {ds : List D} {x : Str} {elts : List Expr} {kk : Nat} {tp : Pos} (h1 : EV C a E M (.dat (.tup ds)) M1) (hm : Bt C.g "enumerate") (hx : x = "enumerate" := by rfl) (hg : C.sc.names.lookup x = some .globalImplicit := by rfl) (hs : ∀ env, starEach [a] env = [(false, eval a env)] := by intro _; rfl) :
    EI C (.Tuple elts kk tp) (.Call (.Name x p) [a] [] pos) E M ds.length (atN ds) M1 tt := fun I H adr σ R s q => by
  subst hx
  refine ⟨iEnumT C.g.K (tCons (UE C a) tNil), fun X hX => by
    have := pi_enumT (tpos := tp) (elts := elts) (kk := kk) (p := p) (pos := pos) (X := X) (by show X.env.scope.names.lookup _ = _; rw [hX.sc]; exact hg) (by rw [hX.mg]; exact hm) (pa_cons (ue hX a) pa_nil (by rw [hs X.env]; rfl)) (hs X.env)
    rw [hX.K] at this
    exact this, h1 I H adr σ _ s fun v I1 H1 adr1 s1 g1 v1 => ?_⟩
  cases (show Rep I1 (.tup ds) v from v1) with
  | @tup p1 xs _ hp hr =>
    refine ⟨p1, xs, rfl, sqt_uniq (s1.ex _ _ hp), q _ I1 H1 adr1 s1 g1 fun I3 H3 adr3 σ3 E3 M3 s3 g3 _ => ?_⟩
    have a1 : SqT C.g.K H3 p1 xs := sqt_uniq (s3.ex _ _ (g3.ex _ _ hp))
    have l1 := hr.length
    refine ⟨⟨xs, a1, l1.symm⟩, fun n hn => ?_⟩
    have b1 : xs[n]? = some (xs[n]'(by omega)) := List.getElem?_eq_getElem _
    refine ⟨⟨xs, _, a1, b1⟩, fun z H4 hz => ?_⟩
    obtain ⟨T, y, rfl, hT, rfl, f1⟩ := hz
    obtain ⟨x', ex, rx⟩ := hr.get (atO_get hn)
    have e1 : x' = y := Option.some.inj (ex.symm.trans (f1 _ a1))
    subst e1
    obtain ⟨s4, g4, r4⟩ := s3.tup hT (.cons (.int (n : Int)) (.cons (rx.mono g3.ex) .nil))
    exact ⟨_, s4, g4, r4⟩
end
end Ab
/-! Ab: two generators, deep ==, a table of the module, texts in a tuple. -/
namespace Ab
open PySem PySem.Spec PyProof.Rows L2

/-! ### data as the kit's -/
mutual
inductive Py : D → PyData → Prop
  | non : Py .non .none
  | bl (b : Bool) : Py (.bl b) (.bool b)
  | int (i : Int) : Py (.int i) (.int i)
  | tup {ds : List D} {ps : List PyData} (h : Pys ds ps) : Py (.tup ds) (.tuple ps)
  | lst {ds : List D} {ps : List PyData} (h : Pys ds ps) : Py (.lst ds) (.list ps)
inductive Pys : List D → List PyData → Prop
  | nil : Pys [] []
  | cons {d : D} {ds : List D} {p : PyData} {ps : List PyData} (h : Py d p) (r : Pys ds ps) : Pys (d :: ds) (p :: ps)
end
mutual
theorem rep_dp {K : PySem.W.Frag} {I H : Hp} (e : Ex I H) : ∀ {d : D} {p : PyData} {v : V}, Py d p → Rep I d v → Dp K H v p
  | _, _, _, .non, .non => .non
  | _, _, _, .bl _, .bl b => .bl b
  | _, _, _, .int _, .int i => .int i
  | _, _, _, .tup h, .tup a r => .tup (.inl (.inl (e _ _ a))) (reps_dp e h r)
  | _, _, _, .lst h, .lst a r => .lst (.inl (.inl (e _ _ a))) (reps_dp e h r)
theorem reps_dp {K : PySem.W.Frag} {I H : Hp} (e : Ex I H) : ∀ {ds : List D} {ps : List PyData} {vs : List V}, Pys ds ps → Reps I ds vs → DpAll K H vs ps
  | _, _, _, .nil, .nil => .nil
  | _, _, _, .cons h q, .cons a r => .cons (rep_dp e h a) (reps_dp e q r)
end
def pV (v : List Int) : PyData := .tuple (v.map .int)
def pM (m : List (List Int)) : PyData := .tuple (m.map pV)
theorem pys_int : ∀ v : List Int, Pys (v.map D.int) (v.map PyData.int)
  | [] => .nil
  | x :: v => .cons (.int x) (pys_int v)
theorem py_V (v : List Int) : Py (tV v) (pV v) := .tup (pys_int v)
theorem pys_V : ∀ m : List (List Int), Pys (m.map tV) (m.map pV)
  | [] => .nil
  | r :: m => .cons (py_V r) (pys_V m)
theorem py_M (m : List (List Int)) : Py (tM m) (pM m) := .tup (pys_V m)
theorem eqv_ints : ∀ v w : List Int, PyData.eqvAll (v.map .int) (w.map .int) = decide (v = w)
  | [], [] => rfl
  | [], _ :: _ => rfl
  | _ :: _, [] => rfl
  | x :: v, y :: w => by
    show ((x == y) && PyData.eqvAll (v.map .int) (w.map .int)) = _
    rw [eqv_ints v w, Bool.eq_iff_iff]
    simp
theorem eqv_rows : ∀ m n : List (List Int), PyData.eqvAll (m.map pV) (n.map pV) = decide (m = n)
  | [], [] => rfl
  | [], _ :: _ => rfl
  | _ :: _, [] => rfl
  | x :: v, y :: w => by
    show (PyData.eqvAll (x.map .int) (y.map .int) && PyData.eqvAll (v.map pV) (w.map pV)) = _
    rw [eqv_rows v w, eqv_ints, Bool.eq_iff_iff]
    simp
theorem lay_ints : ∀ v : List Int, PyData.canLayAll0 (v.map .int) = true
  | [] => rfl
  | x :: v => by
    show (true && PyData.canLayAll0 (v.map .int)) = true
    rw [lay_ints v]
    rfl
theorem lay_rows : ∀ m : List (List Int), PyData.canLayAll0 (m.map pV) = true
  | [] => rfl
  | x :: v => by
    show (PyData.canLayAll0 (x.map .int) && PyData.canLayAll0 (v.map pV)) = true
    rw [lay_rows v, lay_ints]
    rfl
theorem dep_ints : ∀ v : List Int, PyData.depthAll (v.map .int) ≤ 1
  | [] => by decide
  | x :: v => by
    have := dep_ints v
    show max _ (PyData.depthAll (v.map .int)) ≤ 1
    have h1 : PyData.depth (.int x) ≤ 1 := by
      show (_ : Nat) ≤ 1
      first | exact Nat.zero_le _ | exact Nat.le_refl _
    omega
theorem dep_rows : ∀ m : List (List Int), PyData.depthAll (m.map pV) ≤ 2
  | [] => by decide
  | x :: v => by
    have := dep_rows v
    have h2 := dep_ints x
    show max (PyData.depthAll (x.map .int) + 1) (PyData.depthAll (v.map pV)) ≤ 2
    omega
theorem shaped_M (m : List (List Int)) : SeqAt.shaped (pM m) = true := by
  unfold SeqAt.shaped
  have h1 : (pM m).canLay0 = true := lay_rows m
  have h2 : (pM m).depth ≤ 64 := by
    have := dep_rows m
    show PyData.depthAll (m.map pV) + 1 ≤ 64
    omega
  rw [h1, decide_eq_true h2]
  rfl
section
variable {C : Cc} {E E1 E2 E' : List O} {M M1 M2 M3 M' : Mem} {o o1 o2 o3 : O} {os : List O} {e a b c tg iter elt : Expr} {es : List Expr} {pos pos' p p2 pos2 : Pos} {d d1 d2 : D} {i j : Int} {n : Nat} {k k' : Bool} {r : Out} {body : List Stmt} {x y : Str} {ds : List D}
theorem hu64 {X : Cx} (hX : CxIs C X) : X.A.units + 64 < cLine := hX.room.units
theorem CS.eqM {m m' : List (List Int)} : CS C .Eq (.dat (tM m)) (.dat (tM m')) M (.dat (.bl (decide (m = m')))) M := ⟨rEqD C.g.K, fun X hX => by
  have := op_eqD (X := X) (hu64 hX)
  rw [hX.K] at this
  exact this, fun I H adr σ E v w Q s hv hw q => by
  refine ⟨pM m, pM m', rep_dp s.ex (py_M m) hv, rep_dp s.ex (py_M m') hw, shaped_M m, shaped_M m', ?_⟩
  have e : PyData.eqv (pM m) (pM m') = decide (m = m') := eqv_rows m m'
  rw [e]
  exact q _ I H adr s Grow.refl (.bl _)⟩
/-- a scalar against another: none, bool, int, str -/
theorem CS.neNI : CS C .NotEq (.dat .non) (.dat (.int j)) M (.dat (.bl true)) M := ⟨_, fun X _ => op_ne, ro_ne (x := .non) (y := .int j) (fun _ _ h => by cases h; rfl) (fun _ _ => rep_int) rfl rfl⟩
/-! ### texts in a tuple -/
def inS (z : Str) (xs : List Str) : Bool := xs.any fun n => n == z
theorem inV_strs {z : Str} : ∀ xs : List Str, inV (.str z) (xs.map V.str) = inS z xs
  | [] => rfl
  | n :: ns => by
    show (eqV (.str n) (.str z) || inV (.str z) (ns.map V.str)) = (n == z || inS z ns)
    rw [inV_strs ns]
    rfl
theorem reps_str {I : Hp} : ∀ {ns : List Str} {xs : List V}, Reps I (ns.map .str) xs → xs = ns.map V.str
  | [], _, .nil => rfl
  | n :: ns, _, .cons h r => by
    cases h
    rw [reps_str r]
    rfl
theorem rep_str' {I : Hp} {z : Str} {v : V} (h : Rep I (.str z) v) : v = .str z := by cases h; rfl
theorem flat_txt (ns : List Str) : (ns.map V.str).all flatV = true := by
  rw [List.all_map, List.all_eq_true]
  intro x _
  rfl
theorem CS.inSt {z : Str} {ns : List Str} : CS C .In (.dat (.str z)) (.dat (.tup (ns.map .str))) M (.dat (.bl (inS z ns))) M := ⟨rIn C.g.K false, fun X hX => by
  have := op_in_seq (X := X)
  rw [hX.K] at this
  exact this, fun I H adr σ E v w Q s hv hw q => by
  cases rep_str' hv
  cases (show Rep I (.tup (ns.map .str)) w from hw) with
  | @tup p xs _ hp hr =>
    have e := reps_str hr
    subst e
    refine ⟨p, _, rfl, .inr (.inl (.inl (s.ex _ _ hp))), rfl, flat_txt ns, ?_⟩
    show Q (.bl (inV _ _)) H
    rw [inV_strs]
    exact q _ I H adr s Grow.refl (.bl _)⟩
/-! ### a table of the module with text keys -/
structure TabK (g : Pg) (x : Str) (tab : Str → Option Int) : Prop where
  ex : ∃ (dd : Addr) (es : Array DictEntry) (n : Nat), g.mg x = some (.ref dd) ∧ KDict g.K g.w dd es n ∧ ∀ z : Str, ∃ r : Option Value, PySem.W.nsIn g.K dd z = some r ∧ match tab z with
    | some i => ∃ u, r = some u ∧ RelV (.int i) u
    | none => r = none
def optI : Option Int → D
  | some i => .int i
  | none => .non
theorem get_kd {X : Cx} {dd : Addr} {es : Array DictEntry} {n : Nat} (D : KDict X.K X.w dd es n) : MtR X "dict.get" (fun v vs H Q => ∃ (z : Str) (r : Option Value) (v0 : V), v = .ref dd ∧ vs = [.str z] ∧ PySem.W.nsIn X.K dd z = some r ∧ RelV v0 (r.getD .none) ∧ Q v0 H) := by
  intro pins s σ H x xs v us Q I rx rxs h
  obtain ⟨z, r, v0, rfl, rfl, e, rv, q⟩ := h
  cases rx
  obtain ⟨u, rfl, ru⟩ := vals1 rxs
  obtain ⟨t, rfl⟩ := ru
  have mo := PySem.W.mapOf_K (prog := X.prog) (w := X.w) I.kIn D.at_ D.lit
  refine call_meetsIn PySem.F.slot_dict_get mo.typeIs PySem.F.entry_dict_get (PySem.F.args_dict_get_2 _ _) (meets_dict_get (PySem.strKind X.prog X.w) dd (PySem.strKind_is X.prog X.w z t) D.low) ⟨_, mo, ?_⟩
  rw [PySem.W.find_K D.at_ e]
  exact ⟨v0, H, I.tok _, rv, q⟩
def tKGet (dd : Addr) (n : Str → Option (Option Value)) (ta : TA) : TE := fun σ H Q => ta σ H fun xs H2 => ∃ (z : Str) (r : Option Value) (v0 : V), xs = [.str z] ∧ n z = some r ∧ RelV v0 (r.getD .none) ∧ Q v0 H2
theorem pe_kget {X : Cx} {dd : Addr} {es : Array DictEntry} {n : Nat} {ob ar : Expr} {t : TA} {apos cpos : Pos} (D : KDict X.K X.w dd es n) (ho : PE X ob (tC (.ref dd))) (ha : PA X [ar] t) (hbase : attributeBase ob "get" X.env (eval ob X.env) = eval ob X.env)
    (hfew : ((backTo cpos (starEach [ar] X.env)).all (fun x => !x.1) && (backToKw cpos (keywordEach [] X.env)).all (fun x => x.1.isSome) && decide ([ar].length + ([] : List Keyword).length + (if ([] : List Keyword).isEmpty then 0 else 1) < 30)) = true)
    (hline : (apos.endLine == cpos.line) = true) (hs : starEach [ar] X.env = (false, eval ar X.env) :: starEach [] X.env) : PE X (.Call (.Attribute ob "get" apos) [ar] [] cpos) (tKGet dd (PySem.W.nsIn X.K dd) t) :=
  ⟨fun pins s σ H Q I h => wpAny_Call_method_late hbase hfew hline rfl (thn (ho.run pins s σ H (fun x H1 => x = .ref dd ∧ tKGet dd (PySem.W.nsIn X.K dd) t σ H1 Q) I ⟨rfl, h⟩) fun v s1 ⟨x, H1, I1, r1, ex, q1⟩ => by
    subst ex
    have ev : v = Value.ref dd := r1
    subst ev
    have hA := ha.run cpos pins s1 σ H1 _ I1 q1
    refine ⟨"dict", "dict.get", PySem.F.plainAttrs_dict, PySem.F.slot_dict_get, PySem.F.type_dict_get, kd_type D I1, fun a ea => ?_, ?_⟩
    · cases ea
      exact ⟨_, I1.kIn _ _ D.at_, rfl⟩
    · rw [hs] at hA ⊢
      refine Calls.callWith_builtin (by rfl) (Calls.evalArgs_plain (thn hA fun us s2 ⟨vs, H2, I2, r2, z, r, v0, q2, q3, q4, q5⟩ => get_kd D pins s2 σ H2 (.ref dd) vs _ us Q I2 rfl r2 ⟨z, r, v0, rfl, q2, q3, q4, q5⟩)))⟩
theorem EV.dget {z : Str} {tab : Str → Option Int} {apos q : Pos} (T : TabK C.g x tab) (ha : EV C a E M (.dat (.str z)) M') (hg : C.sc.names.lookup x = some .globalImplicit := by rfl) (hdb : (x == ("__debug__" : Str)) = false := by decide)
    (hbase : ∀ env, attributeBase (.Name x q) "get" env (eval (.Name x q) env) = eval (.Name x q) env := by intro _; rfl)
    (hfew : ∀ env, ((backTo pos (starEach [a] env)).all (fun x => !x.1) && (backToKw pos (keywordEach [] env)).all (fun x => x.1.isSome) && decide ([a].length + ([] : List Keyword).length + (if ([] : List Keyword).isEmpty then 0 else 1) < 30)) = true := by intro _; rfl)
    (hline : (apos.endLine == pos.line) = true := by rfl) (hs : ∀ env, starEach [a] env = (false, eval a env) :: starEach [] env := by intro _; rfl) : EV C (.Call (.Attribute (.Name x q) "get" apos) [a] [] pos) E M (.dat (optI (tab z))) M' := by
  obtain ⟨dd, es, n, hm, D, hq⟩ := T.ex
  obtain ⟨r, hr, hv⟩ := hq z
  refine EV.mk (t := tKGet dd (PySem.W.nsIn C.g.K dd) (tCons (UE C a) tNil)) (fun X hX => by
    have D' : KDict X.K X.w dd es n := by rw [hX.K, hX.w]; exact D
    have := pe_kget (apos := apos) (cpos := pos) D' (pe_glob (v := .ref dd) (u := .ref dd) (pos := q) (by show X.env.scope.names.lookup x = _; rw [hX.sc]; exact hg) (by rw [hX.mg]; exact hm) rfl hdb) (pa_cons (ue hX a) pa_nil (hs X.env)) (hbase X.env) (hfew X.env) hline (hs X.env)
    rw [hX.K] at this
    exact this) fun I H adr σ Q s q => ha I H adr σ _ s fun v I1 H1 adr1 s1 g1 v1 => ?_
  cases rep_str' v1
  cases ht : tab z with
  | some i =>
    rw [ht] at hv q
    obtain ⟨u, rfl, hu⟩ := hv
    exact ⟨z, _, .int i, rfl, hr, hu, q _ I1 H1 adr1 s1 g1 (.int i)⟩
  | none =>
    rw [ht] at hv q
    subst hv
    exact ⟨z, _, .non, rfl, hr, rfl, q _ I1 H1 adr1 s1 g1 .non⟩
/-! ### two generators -/
theorem LC2.ev {α β : Type} (jx jy : Nat) {iter1 : Expr} {scope : Scope} {own : List (Str × Nat)} {q1 q2 : Pos} {xs : List α} {f : α → D} {ys : α → List β} {f' : β → D} {dy : α → D} {gg : α → β → D} (ok : blkC C.N C.sc scope own = true) (nd : C.N.Nodup) (ho : own.map (·.2) = [jx, jy]) (hne : jx ≠ jy)
    (h : EV C iter E M (.dat d) M') (hd : seqD d = some (xs.map f)) (hl : M.length ≤ M'.length) (hok : OkM M M') (hz : (xs.flatMap fun u => (ys u).map (gg u)).length < 100000)
    (inner : ∀ u ∈ xs, ∀ M, EV (C.blk scope) iter1 ((wipeE E [jx, jy]).set jx (.dat (f u))) M (.dat (dy u)) M ∧ seqD (dy u) = some ((ys u).map f'))
    (step : ∀ u ∈ xs, ∀ v ∈ ys u, ∀ M, EV (C.blk scope) elt (((wipeE E [jx, jy]).set jx (.dat (f u))).set jy (.dat (f' v))) M (.dat (gg u v)) M)
    (hi : C.N[jx]? = some x := by rfl) (hi' : C.N[jy]? = some y := by rfl) (hx : Loc (C.blk scope).sc x := by first | exact Or.inl rfl | exact Or.inr rfl) (hx' : Loc (C.blk scope).sc y := by first | exact Or.inl rfl | exact Or.inr rfl)
    (hf' : (C.blk scope).fn x = true ∨ (C.blk scope).sc.names.lookup x = some .local := by first | exact .inl rfl | exact .inr rfl) (hf'' : (C.blk scope).fn y = true ∨ (C.blk scope).sc.names.lookup y = some .local := by first | exact .inl rfl | exact .inr rfl)
    (hf : ∀ env x, foldedSetIterable iter env x = pure x := by intro _ _; rfl) (hf2 : ∀ env x, foldedSetIterable iter1 env x = pure x := by intro _ _; rfl) : EV C (.ListComp elt [⟨.Name x q1, iter, [], 0⟩, ⟨.Name y q2, iter1, [], 0⟩] scope pos) E M (.dat (.lst (xs.flatMap fun u => (ys u).map (gg u)))) M' := by
  have hn : (xs.map f).length = xs.length := List.length_map _
  let acc : Nat → List D := fun i => (xs.take i).flatMap fun u => (ys u).map (gg u)
  have hacc : ∀ i (h : i < xs.length), acc (i + 1) = acc i ++ (ys xs[i]).map (gg xs[i]) := fun i h => by
    show (xs.take (i + 1)).flatMap _ = (xs.take i).flatMap _ ++ _
    rw [List.take_succ_eq_append_getElem h, List.flatMap_append]
    simp
  have hle : ∀ i, (acc i).length ≤ (xs.flatMap fun u => (ys u).map (gg u)).length := fun i => by
    have e : xs.flatMap (fun u => (ys u).map (gg u)) = acc i ++ (xs.drop i).flatMap fun u => (ys u).map (gg u) := by
      show _ = (xs.take i).flatMap _ ++ _
      rw [← List.flatMap_append, List.take_append_drop]
    rw [e, List.length_append]
    omega
  have main : EV C (.ListComp elt [⟨.Name x q1, iter, [], 0⟩, ⟨.Name y q2, iter1, [], 0⟩] scope pos) E M (.adr M'.length) (M' ++ [some ((acc xs.length).map O.dat)]) := by
    refine EV.mk (fun X hX => pe_lc2 (vs1 := [jy]) hX.calm (by rw [hX.N]; exact nd) (ui hX (.Name x q1) iter) (by rw [hX.N, hX.sc]; exact blkOk_by ok) (fun i hi => by rw [ho]; simp at hi; simp [hi]) (fun s H A cl fp => ug (cx_blk hX s H scope A cl fp) (.Name x q1)) (fun s H A cl fp => up (cx_blk hX s H scope A cl fp) []) (fun s H A cl fp => ui (cx_blk hX s H scope A cl fp) (.Name y q2) iter1) (fun s H A cl fp => ug (cx_blk hX s H scope A cl fp) (.Name y q2)) (fun s H A cl fp => up (cx_blk hX s H scope A cl fp) []) (fun s H A cl fp => ue (cx_blk hX s H scope A cl fp) elt) (hf X.env) hf2) fun I H adr σ Q s q => ?_
    rw [ho]
    refine (EI.seq (tg := .Name x q1) h hd) I H adr σ _ s fun J I1 H1 adr1 s1 g1 hr Dl hD => ?_
    rw [hn] at hr
    obtain ⟨s2, g2, atD⟩ := s1.cel hD (os := []) .nil
    refine ⟨fun i μ H' => i ≤ xs.length ∧ μ = xs.length - i ∧ ∃ I3 adr3, Stt I3 H' adr3 σ E (M' ++ [some ((acc i).map O.dat)]) ∧ Grow I1 (upd H1 Dl (.lst [])) (adr1 ++ [Dl]) I3 H' adr3, ⟨xs.length, Nat.zero_le _, by omega, I1, _, s2, Grow.refl⟩, ?_⟩
    rintro i μ H3 ⟨hi3, rfl, I3, adr3, s3, g3⟩
    obtain ⟨st, go⟩ := hr I3 H3 adr3 σ E _ s3 (g2.trans g3) True.intro
    by_cases him : i < xs.length
    · obtain ⟨g0, gy⟩ := go i him
      refine .inr ⟨g0, fun H'' => ∃ I4 adr4, Stt I4 H'' adr4 σ E (M' ++ [some ((acc (i + 1)).map O.dat)]) ∧ Grow I1 (upd H1 Dl (.lst [])) (adr1 ++ [Dl]) I4 H'' adr4, fun H'' hN => ⟨xs.length - (i + 1), by omega, by omega, rfl, hN⟩, fun z H4 hy => ?_⟩
      obtain ⟨I4, s4, g4, v4⟩ := gy z H4 hy
      rw [atO_map him] at v4
      have hu : xs[i] ∈ xs := List.getElem_mem him
      generalize hxi : xs[i] = u at v4 hu
      refine (EGv.nm (C := C.blk scope) (vs := [jx, jy]) jx nd (by simp) hi hx hf') I4 H4 adr3 (wipe σ [jx, jy]) z _ (s4.wipe _) v4 fun I5 H5 adr5 σ5 s5 g5 l5 f5 => ⟨?_, ?_⟩
      · rw [wipe_eq l5 f5]
        exact wipe_eq (wipe_length _ _) fun i hi => wipe_get _ _ _ hi
      · refine (EP.nil (C := C.blk scope)) I5 H5 adr5 σ5 _ s5 fun I6 H6 adr6 s6 g6 => ?_
        rw [if_pos rfl]
        obtain ⟨hin, hdy⟩ := inner u hu (M' ++ [some ((acc i).map O.dat)])
        refine (EI.seq (tg := .Name y q2) hin hdy) I6 H6 adr6 σ5 _ s6 fun J1 I7 H7 adr7 s7 g7 hr1 => ?_
        have hn1 : ((ys u).map f').length = (ys u).length := List.length_map _
        rw [hn1] at hr1
        refine ⟨fun j κ H' => j ≤ (ys u).length ∧ κ = (ys u).length - j ∧ ∃ I8 adr8, Stt I8 H' adr8 σ5 ((wipeE E [jx, jy]).set jx (.dat (f u))) (M' ++ [some ((acc i ++ ((ys u).take j).map (gg u)).map O.dat)]) ∧ Grow I7 H7 adr7 I8 H' adr8, ⟨(ys u).length, Nat.zero_le _, by omega, I7, adr7, by rw [List.take_zero, List.map_nil, List.append_nil]; exact s7, Grow.refl⟩, ?_⟩
        rintro j κ H8 ⟨hj, rfl, I8, adr8, s8, g8⟩
        obtain ⟨st1, go1⟩ := hr1 I8 H8 adr8 σ5 _ _ s8 g8 True.intro
        by_cases hjm : j < (ys u).length
        · obtain ⟨g01, gy1⟩ := go1 j hjm
          refine .inr ⟨g01, fun H' => ∃ I9 adr9, Stt I9 H' adr9 σ5 ((wipeE E [jx, jy]).set jx (.dat (f u))) (M' ++ [some ((acc i ++ ((ys u).take (j + 1)).map (gg u)).map O.dat)]) ∧ Grow I7 H7 adr7 I9 H' adr9, fun H' hN => ⟨(ys u).length - (j + 1), by omega, by omega, rfl, hN⟩, fun z' H9 hy1 => ?_⟩
          obtain ⟨I9, s9, g9, v9⟩ := gy1 z' H9 hy1
          rw [atO_map hjm] at v9
          have hvm : (ys u)[j] ∈ ys u := List.getElem_mem hjm
          refine (EGv.nm (C := C.blk scope) (vs := [jy]) jy nd (by simp) hi' hx' hf'') I9 H9 adr8 (wipe σ5 [jy]) z' _ (s9.wipe _) v9 fun I10 H10 adr10 σ10 s10 g10 l10 f10 => ⟨?_, ?_⟩
          · rw [wipe_eq l10 f10]
            exact wipe_eq (wipe_length _ _) fun i hi => wipe_get _ _ _ hi
          · refine (EP.nil (C := C.blk scope)) I10 H10 adr10 σ10 _ s10 fun I11 H11 adr11 s11 g11 => ?_
            rw [if_pos rfl]
            have eE : (wipeE ((wipeE E [jx, jy]).set jx (.dat (f u))) [jy]).set jy (.dat (f' (ys u)[j])) = ((wipeE E [jx, jy]).set jx (.dat (f u))).set jy (.dat (f' (ys u)[j])) := List.set_set _
            rw [eE] at s11
            refine step u hu _ hvm _ I11 H11 adr11 σ10 _ s11 fun w I12 H12 adr12 s12 g12 w12 => ?_
            have gI := (((g8.trans g9).trans g10).trans g11).trans g12
            have gAll := (((((g3.trans g4).trans g5).trans g6).trans g7).trans gI)
            have hD12 : adr12[M'.length]? = some Dl := gAll.get atD
            have hc : (M' ++ [some ((acc i ++ ((ys u).take j).map (gg u)).map O.dat)])[M'.length]? = some (some ((acc i ++ ((ys u).take j).map (gg u)).map O.dat)) := by
              rw [List.getElem?_append_right (Nat.le_refl _), Nat.sub_self]
              rfl
            obtain ⟨_, vs, hx1, hx2⟩ := s12.sto.cell M'.length Dl _ hD12 hc
            have hlen := hx2.length
            have hcnt : (acc i ++ ((ys u).take j).map (gg u)).length ≤ (acc (i + 1)).length := by
              rw [hacc i him, hxi, List.length_append, List.length_append, List.length_map, List.length_map, List.length_take]
              omega
            have h3 := hle (i + 1)
            refine ⟨vs, hx1, by rw [← hlen]; exact sz_lt (by rw [List.length_map]; omega), ?_⟩
            obtain ⟨s13, g13⟩ := s12.wri hD12 hc (Vs.app hx2 (.cons w12 .nil))
            have eM : (M' ++ [some ((acc i ++ ((ys u).take j).map (gg u)).map O.dat)]).set M'.length (some ((acc i ++ ((ys u).take j).map (gg u)).map O.dat ++ [O.dat (gg u (ys u)[j])])) = M' ++ [some ((acc i ++ ((ys u).take (j + 1)).map (gg u)).map O.dat)] := by
              rw [List.set_append_right _ _ (Nat.le_refl _), Nat.sub_self, List.take_succ_eq_append_getElem hjm, List.map_append (f := gg u), ← List.append_assoc, List.map_append (f := O.dat) (l₂ := [(ys u)[j]].map (gg u))]
              rfl
            rw [eM] at s13
            exact ⟨I12, adr12, s8.mono ((((g9.trans g10).trans g11).trans g12).trans g13) s13.ex s13.sto, gI.trans g13⟩
        · have ej : j = (ys u).length := by omega
          subst ej
          refine .inl ⟨st1, I8, adr8, ?_, ((((g3.trans g4).trans g5).trans g6).trans g7).trans g8⟩
          have e1 : acc (i + 1) = acc i ++ ((ys u).take (ys u).length).map (gg u) := by rw [hacc i him, hxi, List.take_length]
          rw [e1]
          exact s3.mono ((((g4.trans g5).trans g6).trans g7).trans g8) s8.ex s8.sto
    · have e : i = xs.length := by omega
      subst e
      exact .inl ⟨st, q _ I3 H3 adr3 s3 ((g1.trans g2).trans g3) ⟨Dl, g3.get atD, rfl⟩⟩
  have e2 : acc xs.length = xs.flatMap fun u => (ys u).map (gg u) := by
    show (xs.take xs.length).flatMap _ = _
    rw [List.take_length]
  rw [e2] at main
  exact Ev.froz main rfl hl hok
end
end Ab
/-! Ab: dict displays, a text some times. -/
namespace Ab
open PySem PySem.Spec PyProof.Rows L2
section
variable {C : Cc} {E E1 E2 E' : List O} {M M1 M2 M3 M' : Mem} {a b c : Expr} {es : List Expr} {pos pos' p p2 pos2 : Pos} {d d1 d2 : D} {i j : Int} {n : Nat} {k k' : Bool} {x y : Str} {ds : List D}
theorem EV.dict0 : EV C (.Dict [] [] pos) E M (.dat (.dct [] [])) M :=
  EV.mk (fun _ _ => pe_dnewK) fun I H adr σ Q s q p hp => by
    obtain ⟨s2, g2⟩ := s.ext (o := .dK []) hp
    exact q _ _ _ _ s2 g2 (.dct (kvs := []) upd_same .nil)
/-- "0" * m, m from 1 to 3 -/
def zeros (m : Int) : Str := if m = 1 then "0" else if m = 2 then "00" else "000"
theorem op_zeros {X : Cx} : OpR X (binaryOp .Mult) (fun x y H Q => ∃ m : Int, x = .str "0" ∧ y = .int m ∧ 1 ≤ m ∧ m ≤ 3 ∧ Q (.str (zeros m)) H) := by
  intro pins s σ H x y v u Q I rx ry h
  obtain ⟨m, rfl, rfl, h1, h2, q⟩ := h
  obtain ⟨t, rfl⟩ := rx
  obtain ⟨t', rfl⟩ := ry
  have hm : m = 1 ∨ m = 2 ∨ m = 3 := by omega
  rcases hm with rfl | rfl | rfl
  · exact PySem.P.mul_str (by decide) (by decide) (by decide) ⟨.str (zeros 1), H, I.kept (t' := s.toks) fun _ _ z => z, ⟨t, rfl⟩, q⟩
  · exact PySem.P.mul_str (by decide) (by decide) (by decide) ⟨by decide, .str (zeros 2), H, I.tok _, ⟨_, rfl⟩, q⟩
  · exact PySem.P.mul_str (by decide) (by decide) (by decide) ⟨by decide, .str (zeros 3), H, I.tok _, ⟨_, rfl⟩, q⟩
theorem BS.zeros (h : 1 ≤ i ∧ i ≤ 3) : BS C .Mult (.dat (.str "0")) (.dat (.int i)) M (.dat (.str (Ab.zeros i))) M := ⟨_, fun X _ => op_zeros, fun I H adr σ E v w Q s hv hw q => by
  cases rep_int hw
  cases rep_str' hv
  exact ⟨i, rfl, rfl, h.1, h.2, q _ I H adr s Grow.refl (.str _)⟩⟩
/-- {"key": b} -/
theorem EV.dict1 {z : Str} {jj : Nat} {q0 : Pos} (hb : EV C b E M (.dat d) M') : EV C (.Dict [some (.Constant (.str z) jj q0)] [b] pos) E M (.dat (.dct [.inr z] [d])) M' :=
  EV.mk (t := tDisp [(tC (.str z), UE C b)]) (fun X hX => pe_disp (pps_cons pe_str (ue hX b) pps_nil) rfl rfl (by simp) (by simp)) fun I H adr σ Q s q p hp => by
    have hi := s.ex.non hp
    have pa : p ∉ adr := fun h => by
      obtain ⟨k, hk⟩ := List.getElem?_of_mem h
      obtain ⟨u, hu⟩ := s.sto.dom k p hk
      rw [hp] at hu
      cases hu
    have ne0 : ∀ q u, H q = some u → q ≠ p := fun q u h => ne_of_none h hp
    have g0 : Grow I H adr I (upd H p (.dK [])) adr := ⟨Ex.refl _, ⟨[], by simp, by simp⟩, fun q u h _ => by rw [upd_ne (ne0 q u h)]; exact h, fun q u h => ⟨u, by rw [upd_ne (ne0 q u h)]; exact h⟩, fun _ _ _ h _ => h⟩
    have t0 : Sto I (upd H p (.dK [])) adr M := ⟨s.sto.len, s.sto.nd, fun k a os h1 h2 => by
      obtain ⟨c1, xs, c2, c3⟩ := s.sto.cell k a os h1 h2
      exact ⟨c1, xs, by rw [upd_ne (ne0 _ _ c2)]; exact c2, c3⟩, fun k a h => by
      obtain ⟨u, hu⟩ := s.sto.dom k a h
      exact ⟨u, by rw [upd_ne (ne0 _ _ hu)]; exact hu⟩⟩
    have s0 : Stt I (upd H p (.dK [])) adr σ E M := s.mono g0 (s.ex.mut hi) t0
    show tC (.str z) σ (upd H p (.dK [])) _
    show UE C b σ (upd H p (.dK [])) _
    refine hb I _ adr σ _ s0 fun v I2 H2 adr2 s2 g2 v2 => ?_
    have h2p : H2 p = some (.dK []) := g2.keep p _ upd_same pa
    have i2p : I2 p = none := g2.out p _ upd_same hi pa
    have p2 : p ∉ adr2 := fun h => by
      obtain ⟨nw, rfl, fr⟩ := g2.new
      rcases List.mem_append.mp h with h | h
      · exact pa h
      · have := fr p h
        rw [upd_same] at this
        cases this
    refine ⟨h2p, [(.inr z, v)], rfl, by show 1 ≤ 15; decide, ?_⟩
    show Q (.ref p) (upd H2 p (.dK [(.inr z, v)]))
    have e3 : Ex (upd I2 p (.dK [(.inr z, v)])) (upd H2 p (.dK [(.inr z, v)])) := s2.ex.upd
    have i3 : Ex I2 (upd I2 p (.dK [(.inr z, v)])) := Ex.new i2p
    have nep : ∀ (k : Nat) (a : Addr), adr2[k]? = some a → a ≠ p := fun k a h e => p2 (e ▸ List.mem_of_getElem? h)
    have t3 : Sto (upd I2 p (.dK [(.inr z, v)])) (upd H2 p (.dK [(.inr z, v)])) adr2 M' := ⟨s2.sto.len, s2.sto.nd, fun k a os h1 h2 => by
      obtain ⟨c1, xs, c2, c3⟩ := s2.sto.cell k a os h1 h2
      exact ⟨by rw [upd_ne (nep k a h1)]; exact c1, xs, by rw [upd_ne (nep k a h1)]; exact c2, c3.ext i3⟩, fun k a h => by
      obtain ⟨u, hu⟩ := s2.sto.dom k a h
      exact ⟨u, by rw [upd_ne (nep k a h)]; exact hu⟩⟩
    have g02 := g0.trans g2
    have nH : ∀ q u, H q = some u → q ≠ p := ne0
    have g3 : Grow I H adr (upd I2 p (.dK [(.inr z, v)])) (upd H2 p (.dK [(.inr z, v)])) adr2 := ⟨g02.ex.trans i3, g02.new, fun q u h h' => by rw [upd_ne (nH q u h)]; exact g02.keep q u h h', fun q u h => by
      obtain ⟨u', hu⟩ := g02.dom q u h
      exact ⟨u', by rw [upd_ne (nH q u h)]; exact hu⟩, fun q u h h1 h2 => by rw [upd_ne (nH q u h)]; exact g02.out q u h h1 h2⟩
    exact q _ _ _ _ (s.mono g3 e3 t3) g3 (.dct (kvs := [(.inr z, v)]) upd_same (.cons (Rep.mono i3 (show Rep I2 d v from v2)) .nil))
end
end Ab
/-! Ab: insert, members, a list some times as a cell, least and greatest. -/
namespace Ab
open PySem PySem.Spec PyProof.Rows L2
section
variable {C : Cc} {E E1 E2 E' : List O} {M M1 M2 M3 M' : Mem} {o : O} {a b c : Expr} {es : List Expr} {pos pos' p p2 pos2 apos : Pos} {d d1 d2 : D} {i j : Int} {n : Nat} {k k' : Bool} {x y : Str} {ds : List D}
theorem EV.insert {ps ps1 : List O} (ho : EV C a E M (.adr n) M1) (hi : EV C b E M1 (.dat (.int i)) M2) (hv : EV C c E M2 o M3) (hm1 : M1[n]? = some (some ps1)) (hm : M3[n]? = some (some ps)) (hz : ps.length < 100000) (h0 : 0 ≤ i ∧ i < 2 ^ 63)
    (hbase : ∀ env, attributeBase a "insert" env (eval a env) = eval a env := by intro _; rfl)
    (hfew : ∀ env, ((backTo pos (starEach [b, c] env)).all (fun x => !x.1) && (backToKw pos (keywordEach [] env)).all (fun x => x.1.isSome) && decide ([b, c].length + ([] : List Keyword).length + (if ([] : List Keyword).isEmpty then 0 else 1) < 30)) = true := by intro _; rfl)
    (hline : (apos.endLine == pos.line) = true := by rfl) (hs : ∀ env, starEach [b, c] env = (false, eval b env) :: starEach [c] env := by intro _; rfl) (hs2 : ∀ env, starEach [c] env = (false, eval c env) :: starEach [] env := by intro _; rfl) (hpl : ∀ env, (backTo pos (starEach [c] env)).any (·.1) = false := by intro _; rfl) :
    EV C (.Call (.Attribute a "insert" apos) [b, c] [] pos) E M (.dat .non) (M3.set n (some (ps.take i.toNat ++ [o] ++ ps.drop i.toNat))) :=
  EV.mk (t := tBM C.g.K "list" (fun x vs H Q => ∃ (l : Addr) (xs : List V) (i : Int) (y : V), x = .ref l ∧ vs = [.int i, y] ∧ H l = some (.lst xs) ∧ xs.length < sizeLine ∧ 0 ≤ i ∧ i < 2 ^ 63 ∧ Q .non (upd H l (.lst (xs.take i.toNat ++ [y] ++ xs.drop i.toNat)))) (UE C a) (tCons (UE C b) (tCons (UE C c) tNil))) (fun X hX => by
    have := pe_bm (apos := apos) (cpos := pos) PySem.F.plainAttrs_list PySem.F.slot_list_insert PySem.F.type_list_insert (mt_insert (X := X)) (ue hX a) (pa_cons (ue hX b) (pa_cons (ue hX c) pa_nil (hs2 X.env)) (hs X.env)) (hbase X.env) (hfew X.env) hline (hs X.env) (hpl X.env)
    rw [hX.K] at this
    exact this) fun I H adr σ Q s q => ho I H adr σ _ s fun v I1 H1 adr1 s1 g1 v1 => by
      obtain ⟨p, hp, rfl⟩ := v1
      obtain ⟨_, xs1, hx1, _⟩ := s1.sto.cell n p ps1 hp hm1
      refine ⟨.inl ⟨rfl, xs1, sql_uniq hx1⟩, hi I1 H1 adr1 σ _ s1 fun u I2 H2 adr2 s2 g2 u2 => hv I2 H2 adr2 σ _ s2 fun w I3 H3 adr3 s3 g3 w3 => ?_⟩
      cases rep_int u2
      have hp3 := g3.get (g2.get hp)
      obtain ⟨_, xs, hx, hr⟩ := s3.sto.cell n p ps hp3 hm
      obtain ⟨s4, g4⟩ := s3.wri hp3 hm (Vs.app (Vs.app (Vs.take i.toNat hr) (.cons w3 .nil)) (Vs.drop i.toNat hr))
      exact ⟨p, xs, i, w, rfl, rfl, hx, by rw [← hr.length]; exact sz_lt hz, h0.1, h0.2, q _ I3 _ adr3 s4 (((g1.trans g2).trans g3).trans g4) .non⟩
theorem CS.notInSt {z : Str} {ns : List Str} : CS C .NotIn (.dat (.str z)) (.dat (.tup (ns.map .str))) M (.dat (.bl (!inS z ns))) M := ⟨rIn C.g.K true, fun X hX => by
  have := op_notIn_seq (X := X)
  rw [hX.K] at this
  exact this, fun I H adr σ E v w Q s hv hw q => by
  cases rep_str' hv
  cases (show Rep I (.tup (ns.map .str)) w from hw) with
  | @tup p xs _ hp hr =>
    have e := reps_str hr
    subst e
    refine ⟨p, _, rfl, .inr (.inl (.inl (s.ex _ _ hp))), rfl, flat_txt ns, ?_⟩
    show Q (.bl (!inV _ _)) H
    rw [inV_strs]
    exact q _ I H adr s Grow.refl (.bl _)⟩
theorem CS.inStL {z : Str} {ns : List Str} : CS C .In (.dat (.str z)) (.dat (.lst (ns.map .str))) M (.dat (.bl (inS z ns))) M := ⟨rIn C.g.K false, fun X hX => by
  have := op_in_seq (X := X)
  rw [hX.K] at this
  exact this, fun I H adr σ E v w Q s hv hw q => by
  cases rep_str' hv
  cases (show Rep I (.lst (ns.map .str)) w from hw) with
  | @lst p xs _ hp hr =>
    have e := reps_str hr
    subst e
    refine ⟨p, _, rfl, .inl (.inl (.inl (s.ex _ _ hp))), rfl, flat_txt ns, ?_⟩
    show Q (.bl (inV _ _)) H
    rw [inV_strs]
    exact q _ I H adr s Grow.refl (.bl _)⟩
/-- [..] * i, a cell -/
theorem BS.mulLN (h0 : 0 ≤ i) (h2 : i ≤ 1000) (h3 : ds.length ≤ 100) : BS C .Mult (.dat (.lst ds)) (.dat (.int i)) M (.adr M.length) (M ++ [some ((List.replicate i.toNat ds).flatten.map .dat)]) := ⟨rRep, fun X hX => op_rep, fun I H adr σ E v w Q s hv hw q => by
  cases rep_int hw
  cases (show Rep I (.lst ds) v from hv) with
  | @lst a xs _ ha hr =>
    have l1 := hr.length
    refine ⟨a, i, xs, rfl, rfl, s.ex _ _ ha, by omega, by omega, ?_, fun p hp => ?_⟩
    · have : xs.length * i.toNat ≤ 100 * 1000 := Nat.mul_le_mul (by omega) (by omega)
      exact sz_of (by omega)
    · obtain ⟨s2, g2, r2⟩ := s.cel hp (Vs.reps (hr.rep i.toNat))
      exact q _ _ _ _ s2 g2 ⟨p, r2, rfl⟩⟩
theorem EV.minL {ns : List Int} {m : Int} (h : EV C a E M (.dat (.lst (ns.map .int))) M') (h1 : m ∈ ns) (h2 : ∀ y ∈ ns, m ≤ y) (hm : Bt C.g "min") (hx : x = "min" := by rfl) (hg : C.sc.names.lookup x = some .globalImplicit := by rfl) (he : ∀ env, starEach [a] env = (false, eval a env) :: starEach [] env := by intro _; rfl) : EV C (.Call (.Name x p) [a] [] pos) E M (.dat (.int m)) M' := by
  subst hx; exact EV.bi (KS.minL h1 h2) h hm bv_min (by decide) (by decide) hg he
theorem EV.maxL {ns : List Int} {m : Int} (h : EV C a E M (.dat (.lst (ns.map .int))) M') (h1 : m ∈ ns) (h2 : ∀ y ∈ ns, y ≤ m) (hm : Bt C.g "max") (hx : x = "max" := by rfl) (hg : C.sc.names.lookup x = some .globalImplicit := by rfl) (he : ∀ env, starEach [a] env = (false, eval a env) :: starEach [] env := by intro _; rfl) : EV C (.Call (.Name x p) [a] [] pos) E M (.dat (.int m)) M' := by
  subst hx; exact EV.bi (KS.maxL h1 h2) h hm bv_max (by decide) (by decide) hg he
end
end Ab
namespace Ab
open PySem PySem.Spec PyProof.Rows L2
def top (i : Nat) : Stmt := PySem.Challenge.pw_multipliedout_k02_whole_claims_taken.main.body.getD i (.Pass ⟨0, 0, 0, 0⟩)
def tab_SIZES (z : Str) : Option Int := if z = "product" then some 4 else if z = "same" then some 3 else if z = "divides" then some 3 else if z = "not divides" then some 3 else if z = "least" then some 3 else if z = "less" then some 3 else if z = "echelon" then some 2 else none
abbrev s_is_number : Stmt := top 1
abbrev n_is_number : List Str := ["value"]
theorem c_is_number : FnScope n_is_number ["value"] (defScope s_is_number) := ⟨rfl, rfl, rfl, by decide +kernel, rfl, by decide +kernel, by decide +kernel⟩
-- 0:value
abbrev s_is_wide : Stmt := top 2
abbrev n_is_wide : List Str := ["value", "row", "one"]
theorem c_is_wide : FnScope n_is_wide ["value"] (defScope s_is_wide) := ⟨rfl, rfl, rfl, by decide +kernel, rfl, by decide +kernel, by decide +kernel⟩
-- 0:value 1:row 2:one
abbrev s_times : Stmt := top 4
abbrev n_times : List Str := ["one", "other", "left", "right"]
theorem c_times : FnScope n_times ["one", "other"] (defScope s_times) := ⟨rfl, rfl, rfl, by decide +kernel, rfl, by decide +kernel, by decide +kernel⟩
-- 0:one 1:other 2:left 3:right
abbrev s_flipped : Stmt := top 5
abbrev n_flipped : List Str := ["a", "at", "row"]
theorem c_flipped : FnScope n_flipped ["a"] (defScope s_flipped) := ⟨rfl, rfl, rfl, by decide +kernel, rfl, by decide +kernel, by decide +kernel⟩
-- 0:a 1:at 2:row
abbrev s_multiplied : Stmt := top 6
abbrev n_multiplied : List Str := ["a", "b", "columns", "row", "column"]
theorem c_multiplied : FnScope n_multiplied ["a", "b"] (defScope s_multiplied) := ⟨rfl, rfl, rfl, by decide +kernel, rfl, by decide +kernel, by decide +kernel⟩
-- 0:a 1:b 2:columns 3:row 4:column
abbrev s_lead : Stmt := top 7
abbrev n_lead : List Str := ["v", "at", "one"]
theorem c_lead : FnScope n_lead ["v"] (defScope s_lead) := ⟨rfl, rfl, rfl, by decide +kernel, rfl, by decide +kernel, by decide +kernel⟩
-- 0:v 1:at 2:one
abbrev s_is_echelon : Stmt := top 8
abbrev n_is_echelon : List Str := ["a", "last", "row", "place"]
theorem c_is_echelon : FnScope n_is_echelon ["a"] (defScope s_is_echelon) := ⟨rfl, rfl, rfl, by decide +kernel, rfl, by decide +kernel, by decide +kernel⟩
-- 0:a 1:last 2:row 3:place
abbrev s_numbers_of : Stmt := top 11
abbrev n_numbers_of : List Str := ["a", "row", "one"]
theorem c_numbers_of : FnScope n_numbers_of ["a"] (defScope s_numbers_of) := ⟨rfl, rfl, rfl, by decide +kernel, rfl, by decide +kernel, by decide +kernel⟩
-- 0:a 1:row 2:one
abbrev s_divides_all : Stmt := top 12
abbrev n_divides_all : List Str := ["d", "a", "one"]
theorem c_divides_all : FnScope n_divides_all ["d", "a"] (defScope s_divides_all) := ⟨rfl, rfl, rfl, by decide +kernel, rfl, by decide +kernel, by decide +kernel⟩
-- 0:d 1:a 2:one
abbrev s_is_claim : Stmt := top 13
abbrev n_is_claim : List Str := ["value", "table"]
theorem c_is_claim : FnScope n_is_claim ["value"] (defScope s_is_claim) := ⟨rfl, rfl, rfl, by decide +kernel, rfl, by decide +kernel, by decide +kernel⟩
-- 0:value 1:table
abbrev s_is_product : Stmt := top 14
abbrev n_is_product : List Str := ["a", "b", "c"]
theorem c_is_product : FnScope n_is_product ["a", "b", "c"] (defScope s_is_product) := ⟨rfl, rfl, rfl, by decide +kernel, rfl, by decide +kernel, by decide +kernel⟩
-- 0:a 1:b 2:c
abbrev s_is_so : Stmt := top 15
abbrev n_is_so : List Str := ["claim", "word", "one"]
theorem c_is_so : FnScope n_is_so ["claim"] (defScope s_is_so) := ⟨rfl, rfl, rfl, by decide +kernel, rfl, by decide +kernel, by decide +kernel⟩
-- 0:claim 1:word 2:one
abbrev s_wrong_one : Stmt := top 16
abbrev n_wrong_one : List Str := ["claims", "number", "claim"]
theorem c_wrong_one : FnScope n_wrong_one ["claims"] (defScope s_wrong_one) := ⟨rfl, rfl, rfl, by decide +kernel, rfl, by decide +kernel, by decide +kernel⟩
-- 0:claims 1:number 2:claim
abbrev s_takes : Stmt := top 17
abbrev n_takes : List Str := ["claims"]
theorem c_takes : FnScope n_takes ["claims"] (defScope s_takes) := ⟨rfl, rfl, rfl, by decide +kernel, rfl, by decide +kernel, by decide +kernel⟩
-- 0:claims
abbrev s_first_wrong : Stmt := top 18
abbrev n_first_wrong : List Str := ["claims"]
theorem c_first_wrong : FnScope n_first_wrong ["claims"] (defScope s_first_wrong) := ⟨rfl, rfl, rfl, by decide +kernel, rfl, by decide +kernel, by decide +kernel⟩
-- 0:claims
abbrev s_law_draws : Stmt := top 20
abbrev n_law_draws : List Str := ["script", "many", "told", "cell", "number", "k", "state"]
theorem c_law_draws : FnScope n_law_draws ["script", "many"] (defScope s_law_draws) := ⟨rfl, rfl, rfl, by decide +kernel, rfl, by decide +kernel, by decide +kernel⟩
-- 0:script 1:many 2:told 3:cell 4:number 5:k 6:state
abbrev s_law_take : Stmt := top 21
abbrev n_law_take : List Str := ["row", "bound"]
theorem c_law_take : FnScope n_law_take ["row", "bound"] (defScope s_law_take) := ⟨rfl, rfl, rfl, by decide +kernel, rfl, by decide +kernel, by decide +kernel⟩
-- 0:row 1:bound
abbrev s_law_like : Stmt := top 22
abbrev n_law_like : List Str := ["told", "due", "k"]
theorem c_law_like : FnScope n_law_like ["told", "due"] (defScope s_law_like) := ⟨rfl, rfl, rfl, by decide +kernel, rfl, by decide +kernel, by decide +kernel⟩
-- 0:told 1:due 2:k
abbrev s_law_rows : Stmt := top 23
abbrev n_law_rows : List Str := ["a", "line"]
theorem c_law_rows : FnScope n_law_rows ["a"] (defScope s_law_rows) := ⟨rfl, rfl, rfl, by decide +kernel, rfl, by decide +kernel, by decide +kernel⟩
-- 0:a 1:line
abbrev s_law_number : Stmt := top 24
abbrev n_law_number : List Str := ["x"]
theorem c_law_number : FnScope n_law_number ["x"] (defScope s_law_number) := ⟨rfl, rfl, rfl, by decide +kernel, rfl, by decide +kernel, by decide +kernel⟩
-- 0:x
abbrev s_law_matrix : Stmt := top 25
abbrev n_law_matrix : List Str := ["a", "line", "x"]
theorem c_law_matrix : FnScope n_law_matrix ["a"] (defScope s_law_matrix) := ⟨rfl, rfl, rfl, by decide +kernel, rfl, by decide +kernel, by decide +kernel⟩
-- 0:a 1:line 2:x
abbrev s_law_parts_it : Stmt := top 26
abbrev n_law_parts_it : List Str := ["d", "x"]
theorem c_law_parts_it : FnScope n_law_parts_it ["d", "x"] (defScope s_law_parts_it) := ⟨rfl, rfl, rfl, by decide +kernel, rfl, by decide +kernel, by decide +kernel⟩
-- 0:d 1:x
abbrev s_law_stairs : Stmt := top 27
abbrev n_law_stairs : List Str := ["a", "last", "over", "line", "live", "j"]
theorem c_law_stairs : FnScope n_law_stairs ["a"] (defScope s_law_stairs) := ⟨rfl, rfl, rfl, by decide +kernel, rfl, by decide +kernel, by decide +kernel⟩
-- 0:a 1:last 2:over 3:line 4:live 5:j
abbrev s_law_sums : Stmt := top 28
abbrev n_law_sums : List Str := ["a", "b", "c", "i", "j", "k"]
theorem c_law_sums : FnScope n_law_sums ["a", "b", "c"] (defScope s_law_sums) := ⟨rfl, rfl, rfl, by decide +kernel, rfl, by decide +kernel, by decide +kernel⟩
-- 0:a 1:b 2:c 3:i 4:j 5:k
abbrev s_law_each : Stmt := top 29
abbrev n_law_each : List Str := ["c", "line", "x"]
theorem c_law_each : FnScope n_law_each ["c"] (defScope s_law_each) := ⟨rfl, rfl, rfl, by decide +kernel, rfl, by decide +kernel, by decide +kernel⟩
-- 0:c 1:line 2:x
abbrev s_law_claim : Stmt := top 30
abbrev n_law_claim : List Str := ["c"]
theorem c_law_claim : FnScope n_law_claim ["c"] (defScope s_law_claim) := ⟨rfl, rfl, rfl, by decide +kernel, rfl, by decide +kernel, by decide +kernel⟩
-- 0:c
abbrev s_law_wrong : Stmt := top 31
abbrev n_law_wrong : List Str := ["claims", "k"]
theorem c_law_wrong : FnScope n_law_wrong ["claims"] (defScope s_law_wrong) := ⟨rfl, rfl, rfl, by decide +kernel, rfl, by decide +kernel, by decide +kernel⟩
-- 0:claims 1:k
abbrev s_law_wrong_one : Stmt := top 32
abbrev n_law_wrong_one : List Str := ["claims", "told"]
theorem c_law_wrong_one : FnScope n_law_wrong_one ["claims"] (defScope s_law_wrong_one) := ⟨rfl, rfl, rfl, by decide +kernel, rfl, by decide +kernel, by decide +kernel⟩
-- 0:claims 1:told
abbrev s_law_big : Stmt := top 33
abbrev n_law_big : List Str := ["row"]
theorem c_law_big : FnScope n_law_big ["row"] (defScope s_law_big) := ⟨rfl, rfl, rfl, by decide +kernel, rfl, by decide +kernel, by decide +kernel⟩
-- 0:row
abbrev s_law_table : Stmt := top 34
abbrev n_law_table : List Str := ["row", "n", "m", "told", "i", "j"]
theorem c_law_table : FnScope n_law_table ["row", "n", "m"] (defScope s_law_table) := ⟨rfl, rfl, rfl, by decide +kernel, rfl, by decide +kernel, by decide +kernel⟩
-- 0:row 1:n 2:m 3:told 4:i 5:j
abbrev s_law_product : Stmt := top 35
abbrev n_law_product : List Str := ["row", "a", "b", "told", "line", "j", "k"]
theorem c_law_product : FnScope n_law_product ["row", "a", "b"] (defScope s_law_product) := ⟨rfl, rfl, rfl, by decide +kernel, rfl, by decide +kernel, by decide +kernel⟩
-- 0:row 1:a 2:b 3:told 4:line 5:j 6:k
abbrev s_law_staircase : Stmt := top 36
abbrev n_law_staircase : List Str := ["row", "n", "m", "told", "at", "i", "line", "j"]
theorem c_law_staircase : FnScope n_law_staircase ["row", "n", "m"] (defScope s_law_staircase) := ⟨rfl, rfl, rfl, by decide +kernel, rfl, by decide +kernel, by decide +kernel⟩
-- 0:row 1:n 2:m 3:told 4:at 5:i 6:line 7:j
abbrev s_law_good : Stmt := top 37
abbrev n_law_good : List Str := ["row", "kind", "n", "m", "a", "d", "i", "j", "line", "x"]
theorem c_law_good : FnScope n_law_good ["row", "kind", "n", "m"] (defScope s_law_good) := ⟨rfl, rfl, rfl, by decide +kernel, rfl, by decide +kernel, by decide +kernel⟩
-- 0:row 1:kind 2:n 3:m 4:a 5:d 6:i 7:j 8:line 9:x
abbrev s_law_moved : Stmt := top 38
abbrev n_law_moved : List Str := ["row", "a", "told", "i", "j", "way", "k", "line"]
theorem c_law_moved : FnScope n_law_moved ["row", "a"] (defScope s_law_moved) := ⟨rfl, rfl, rfl, by decide +kernel, rfl, by decide +kernel, by decide +kernel⟩
-- 0:row 1:a 2:told 3:i 4:j 5:way 6:k 7:line
abbrev s_law_spoilt : Stmt := top 39
abbrev n_law_spoilt : List Str := ["row", "c", "way", "word", "k"]
theorem c_law_spoilt : FnScope n_law_spoilt ["row", "c"] (defScope s_law_spoilt) := ⟨rfl, rfl, rfl, by decide +kernel, rfl, by decide +kernel, by decide +kernel⟩
-- 0:row 1:c 2:way 3:word 4:k
abbrev s_law_asked : Stmt := top 40
abbrev n_law_asked : List Str := ["claims", "due"]
theorem c_law_asked : FnScope n_law_asked ["claims"] (defScope s_law_asked) := ⟨rfl, rfl, rfl, by decide +kernel, rfl, by decide +kernel, by decide +kernel⟩
-- 0:claims 1:due
abbrev s_law_thin : Stmt := top 41
abbrev n_law_thin : List Str := ["row", "n", "m", "w", "a", "told", "line"]
theorem c_law_thin : FnScope n_law_thin ["row"] (defScope s_law_thin) := ⟨rfl, rfl, rfl, by decide +kernel, rfl, by decide +kernel, by decide +kernel⟩
-- 0:row 1:n 2:m 3:w 4:a 5:told 6:line
abbrev s_law : Stmt := top 42
abbrev n_law : List Str := ["script", "row", "start", "good", "k", "bad", "mixed", "c"]
theorem c_law : FnScope n_law ["script"] (defScope s_law) := ⟨rfl, rfl, rfl, by decide +kernel, rfl, by decide +kernel, by decide +kernel⟩
-- 0:script 1:row 2:start 3:good 4:k 5:bad 6:mixed 7:c
structure Wd (g : Pg) : Prop where
  b : Bs g
  t_is_number : TxtF g "is_number" s_is_number
  t_is_wide : TxtF g "is_wide" s_is_wide
  t_times : TxtF g "times" s_times
  t_flipped : TxtF g "flipped" s_flipped
  t_multiplied : TxtF g "multiplied" s_multiplied
  t_lead : TxtF g "lead" s_lead
  t_is_echelon : TxtF g "is_echelon" s_is_echelon
  t_numbers_of : TxtF g "numbers_of" s_numbers_of
  t_divides_all : TxtF g "divides_all" s_divides_all
  t_is_claim : TxtF g "is_claim" s_is_claim
  t_is_product : TxtF g "is_product" s_is_product
  t_is_so : TxtF g "is_so" s_is_so
  t_wrong_one : TxtF g "wrong_one" s_wrong_one
  t_takes : TxtF g "takes" s_takes
  t_first_wrong : TxtF g "first_wrong" s_first_wrong
  t_law_draws : TxtF g "_law_draws" s_law_draws
  t_law_take : TxtF g "_law_take" s_law_take
  t_law_like : TxtF g "_law_like" s_law_like
  t_law_rows : TxtF g "_law_rows" s_law_rows
  t_law_number : TxtF g "_law_number" s_law_number
  t_law_matrix : TxtF g "_law_matrix" s_law_matrix
  t_law_parts_it : TxtF g "_law_parts_it" s_law_parts_it
  t_law_stairs : TxtF g "_law_stairs" s_law_stairs
  t_law_sums : TxtF g "_law_sums" s_law_sums
  t_law_each : TxtF g "_law_each" s_law_each
  t_law_claim : TxtF g "_law_claim" s_law_claim
  t_law_wrong : TxtF g "_law_wrong" s_law_wrong
  t_law_wrong_one : TxtF g "_law_wrong_one" s_law_wrong_one
  t_law_big : TxtF g "_law_big" s_law_big
  t_law_table : TxtF g "_law_table" s_law_table
  t_law_product : TxtF g "_law_product" s_law_product
  t_law_staircase : TxtF g "_law_staircase" s_law_staircase
  t_law_good : TxtF g "_law_good" s_law_good
  t_law_moved : TxtF g "_law_moved" s_law_moved
  t_law_spoilt : TxtF g "_law_spoilt" s_law_spoilt
  t_law_asked : TxtF g "_law_asked" s_law_asked
  t_law_thin : TxtF g "_law_thin" s_law_thin
  t_law : TxtF g "law" s_law
  g_SIZES : TabK g "SIZES" tab_SIZES
/-! ### looks of the kernel -/
section
variable {g : Pg}
def D.isSeq (d : D) : Bool := d.isLst || d.isTup
def F_is_number (d r : D) : Prop := r = .bl d.isNum
theorem ok_is_number (W : Wd g) : FN g "is_number" 1 (P1 F_is_number) := by
  refine FN.mk1 W.t_is_number c_is_number (fun _ _ _ _ _ _ us hl => match us, hl with | [_], _ => rfl) (fun d r h => ?_)
  subst h
  exact SB.one (ST.ret (EV.to (EV.and (EV.isInt (EV.nm 0) W.b.isinstance W.b.int) (fun _ => EV.and1 (EV.not (EV.isBool (EV.nm 0) W.b.isinstance W.b.bool))) (fun _ => rfl)) (by cases d <;> rfl)))
theorem seq_of {d : D} {ds : List D} (h : seqD d = some ds) : d.isSeq = true ∧ lenD d = some ds.length := by
  cases d <;> first | (cases h; exact ⟨rfl, rfl⟩) | cases h
theorem seq_no {d : D} (h : seqD d = none) : d.isSeq = false := by
  cases d <;> first | rfl | cases h
theorem all_map {α : Type} (f : α → Bool) (xs : List α) : (xs.map f).all id = xs.all f := by
  rw [List.all_map]
  rfl
end
/-! ### the mathematics of rows -/
def wd (m : List (List Int)) : Nat := (m.headD []).length
structure Mx (m : List (List Int)) : Prop where
  l1 : 1 ≤ m.length
  l8 : m.length ≤ 8
  w1 : 1 ≤ wd m
  w8 : wd m ≤ 8
  rect : ∀ r ∈ m, r.length = wd m
  num : ∀ r ∈ m, ∀ x ∈ r, -1000000 ≤ x ∧ x ≤ 1000000
structure Vx (v : List Int) : Prop where
  l1 : 1 ≤ v.length
  l8 : v.length ≤ 8
  num : ∀ x ∈ v, -1000000 ≤ x ∧ x ≤ 1000000
def IsV (d : D) (v : List Int) : Prop := Vx v ∧ seqD d = some (v.map .int)
def IsM (d : D) (m : List (List Int)) : Prop := Mx m ∧ ∃ ds, seqD d = some ds ∧ Paired (fun e (r : List Int) => seqD e = some (r.map .int)) ds m
theorem Mx.row {m : List (List Int)} (h : Mx m) {r : List Int} (hr : r ∈ m) : Vx r := ⟨by rw [h.rect r hr]; exact h.w1, by rw [h.rect r hr]; exact h.w8, h.num r hr⟩
theorem paired_tM : ∀ m : List (List Int), Paired (fun e (r : List Int) => seqD e = some (r.map D.int)) (m.map tV) m
  | [] => .nil
  | _ :: m => .cons rfl (paired_tM m)
theorem paired_lM : ∀ m : List (List Int), Paired (fun e (r : List Int) => seqD e = some (r.map D.int)) (m.map lV) m
  | [] => .nil
  | _ :: m => .cons rfl (paired_lM m)
theorem isM_t {m : List (List Int)} (h : Mx m) : IsM (tM m) m := ⟨h, _, rfl, paired_tM m⟩
theorem isM_l {m : List (List Int)} (h : Mx m) : IsM (lM m) m := ⟨h, _, rfl, paired_lM m⟩
theorem isV_t {v : List Int} (h : Vx v) : IsV (tV v) v := ⟨h, rfl⟩
theorem isV_l {v : List Int} (h : Vx v) : IsV (lV v) v := ⟨h, rfl⟩
def dot (xs ys : List Int) : Int := ((xs.zip ys).map fun u => u.1 * u.2).sum
def flip (m : List (List Int)) : List (List Int) := (List.range (wd m)).map fun j => m.map fun r => r.getD j 0
def mulM (m n : List (List Int)) : List (List Int) := m.map fun r => (flip n).map fun c => dot r c
def ledBy (v : List Int) (m : List (List Int)) : List Int := (List.range (wd m)).map fun j => ((v.zip m).map fun u => u.1 * u.2.getD j 0).sum
def ontoM (m : List (List Int)) (v : List Int) : List Int := m.map fun r => dot r v
def unitM (n : Nat) : List (List Int) := (List.range n).map fun i => (List.range n).map fun j => if j = i then 1 else 0
def manyM (m : List (List Int)) (k : Int) : List (List Int) := m.map fun r => r.map fun x => k * x
def addM (m n : List (List Int)) : List (List Int) := (m.zip n).map fun u => (u.1.zip u.2).map fun w => w.1 + w.2
def besM (m n : List (List Int)) : List (List Int) := (m.zip n).map fun u => u.1 ++ u.2
def gcdL (v : List Int) : Int := v.foldl (fun a x => (Nat.gcd a.natAbs x.natAbs : Nat)) 0
def MulOk (a b : List (List Int)) : Prop := ∀ r ∈ a, ∀ x ∈ r, ∀ q ∈ b, ∀ y ∈ q, IntMulOk x y
theorem getD_of_lt {r : List Int} {j : Nat} (h : j < r.length) : r[j]? = some (r.getD j 0) := by
  rw [List.getD_eq_getElem?_getD, List.getElem?_eq_getElem h]
  rfl
theorem ix_tV {r : List Int} {j : Nat} (h : j < r.length) : ixD (tV r) ((j : Nat) : Int) = some (.int (r.getD j 0)) := by
  refine atI_nat ?_
  rw [List.getElem?_map, getD_of_lt h]
  rfl
theorem ix_lV {r : List Int} {j : Nat} (h : j < r.length) : ixD (lV r) ((j : Nat) : Int) = some (.int (r.getD j 0)) := by
  refine atI_nat ?_
  rw [List.getElem?_map, getD_of_lt h]
  rfl
theorem ix_tM {m : List (List Int)} {j : Nat} (h : j < m.length) : ixD (tM m) ((j : Nat) : Int) = some (tV (m.getD j [])) := by
  refine atI_nat ?_
  rw [List.getElem?_map, List.getElem?_eq_getElem h, List.getD_eq_getElem?_getD, List.getElem?_eq_getElem h]
  rfl
theorem ix_lM {m : List (List Int)} {j : Nat} (h : j < m.length) : ixD (lM m) ((j : Nat) : Int) = some (lV (m.getD j [])) := by
  refine atI_nat ?_
  rw [List.getElem?_map, List.getElem?_eq_getElem h, List.getD_eq_getElem?_getD, List.getElem?_eq_getElem h]
  rfl
theorem ix_tM0 {m : List (List Int)} (h : m ≠ []) : ixD (tM m) (0 : Int) = some (tV (m.headD [])) := by
  cases m with
  | nil => exact absurd rfl h
  | cons r q => exact ix_tM (j := 0) (by simp)
theorem len_tV {r : List Int} : lenD (tV r) = some r.length := by show some (r.map D.int).length = _; rw [List.length_map]
theorem len_tM {m : List (List Int)} : lenD (tM m) = some m.length := by show some (m.map tV).length = _; rw [List.length_map]
theorem len_lV {r : List Int} : lenD (lV r) = some r.length := by show some (r.map D.int).length = _; rw [List.length_map]
theorem len_lM {m : List (List Int)} : lenD (lM m) = some m.length := by show some (m.map lV).length = _; rw [List.length_map]
/-! ### rows of the kernel -/
section
variable {g : Pg}
theorem tM_map {α : Type} {f : α → List Int} {xs : List α} : tM (xs.map f) = .tup (xs.map fun a => .tup ((f a).map D.int)) := by
  show D.tup _ = D.tup _
  rw [List.map_map]
  rfl
theorem tM_map2 {α β : Type} {f : α → β → Int} {ys : α → List β} {xs : List α} : tM (xs.map fun a => (ys a).map (f a)) = .tup (xs.map fun a => .tup ((ys a).map fun b => .int (f a b))) := by
  rw [tM_map]
  show D.tup _ = D.tup _
  congr 2
  funext a
  show D.tup _ = D.tup _
  rw [List.map_map]
  rfl
theorem tV_map {α : Type} {f : α → Int} {xs : List α} : tV (xs.map f) = .tup (xs.map fun a => .int (f a)) := by
  show D.tup _ = D.tup _
  rw [List.map_map]
  rfl
def F_times (d e r : D) : Prop := ∃ xs ys : List Int, ((d = tV xs ∧ e = tV ys) ∨ (d = lV xs ∧ e = lV ys)) ∧ xs.length < 100000 ∧ (∀ x ∈ xs, ∀ y ∈ ys, IntMulOk x y) ∧ r = .int (dot xs ys)
theorem ok_times (W : Wd g) : FN g "times" 1 (P2 F_times) := by
  refine FN.mk2 W.t_times c_times (fun _ _ _ _ _ _ us hl => match us, hl with | [_, _], _ => rfl) (fun d e r h => ?_)
  obtain ⟨xs, ys, hd, hl, ok, rfl⟩ := h
  refine SB.one (ST.ret (EV.sum (ns := (xs.zip ys).map fun u => u.1 * u.2) ?_ W.b.sum))
  rw [List.map_map]
  exact LC.ev (LC.lZ 2 3 (g := fun x y => .int (x * y)) (own := [("left", 2), ("right", 3)]) (by rfl) c_times.nd rfl (EV.nm 0) (EV.nm 1) hd W.b.zip (Nat.le_refl _) OkM.refl hl (fun u hu v hv M => EV.mul (EV.nm 2) (EV.nm 3) (ok u hu v hv)))
theorem ok_flipped (W : Wd g) : FN g "flipped" 1 (P1 fun d r => ∃ m, d = tM m ∧ m ≠ [] ∧ (∀ q ∈ m, q.length = wd m) ∧ m.length < 100000 ∧ wd m < 100000 ∧ r = tM (flip m)) := by
  refine FN.mk1 W.t_flipped c_flipped (fun _ _ _ _ _ _ us hl => match us, hl with | [_], _ => rfl) (fun d r h => ?_)
  obtain ⟨m, rfl, h0, hr, hl, hw, rfl⟩ := h
  have e : tM (flip m) = .tup ((List.range (wd m)).map fun j => .tup (m.map fun q => .int (q.getD j 0))) := by
    unfold flip
    exact tM_map2
  rw [e]
  refine SB.one (ST.ret (EV.tuple (LC.ev (LC.lR 1 (j := ((wd m : Nat) : Int)) (g := fun j => .tup (m.map fun q => .int (q.getD j 0))) (own := [("at", 1)]) (by rfl) c_flipped.nd rfl (EV.len (EV.ix (EV.nm 0) EV.int (ix_tM0 h0)) len_tV W.b.len) W.b.range (Nat.le_refl _) OkM.refl (by omega) (fun i hi M => ?_))) rfl W.b.tuple))
  exact EV.tuple (LC.ev (LC.lM 2 (xs := m) (f := tV) (g := fun q => .int (q.getD i 0)) (own := [("row", 2)]) (by rfl) c_flipped.nd rfl (EV.nm 0) rfl (Nat.le_refl _) OkM.refl hl (fun q hq M => EV.ix (EV.nm 2) (EV.nm 1) (ix_tV (by rw [hr q hq]; omega))))) rfl W.b.tuple
theorem flip_len {m : List (List Int)} {c : List Int} (h : c ∈ flip m) : c.length = m.length := by
  unfold flip at h
  obtain ⟨j, _, rfl⟩ := List.mem_map.mp h
  exact List.length_map _
theorem flip_mem {m : List (List Int)} {c : List Int} (hr : ∀ q ∈ m, q.length = wd m) (h : c ∈ flip m) {y : Int} (hy : y ∈ c) : ∃ q ∈ m, y ∈ q := by
  unfold flip at h
  obtain ⟨j, hj, rfl⟩ := List.mem_map.mp h
  obtain ⟨q, hq, rfl⟩ := List.mem_map.mp hy
  have hlt : j < q.length := by rw [hr q hq]; exact List.mem_range.mp hj
  exact ⟨q, hq, List.mem_of_getElem? (getD_of_lt hlt)⟩
theorem flip_length {m : List (List Int)} : (flip m).length = wd m := by unfold flip; rw [List.length_map, List.length_range]
def F_multiplied (d e r : D) : Prop := ∃ m n, d = tM m ∧ e = tM n ∧ n ≠ [] ∧ (∀ q ∈ n, q.length = wd n) ∧ m.length < 100000 ∧ n.length < 100000 ∧ wd n < 100000 ∧ (∀ q ∈ m, q.length < 100000) ∧ MulOk m n ∧ r = tM (mulM m n)
theorem ok_multiplied (W : Wd g) : FN g "multiplied" 2 (P2 F_multiplied) := by
  refine FN.mk2 W.t_multiplied c_multiplied (fun _ _ _ _ _ _ us hl => match us, hl with | [_, _], _ => rfl) (fun d e r h => ?_)
  obtain ⟨m, n, rfl, rfl, h0, hr, l1, l2, l3, l4, ok, rfl⟩ := h
  have e : tM (mulM m n) = .tup (m.map fun q => .tup ((flip n).map fun c => .int (dot q c))) := by
    unfold mulM
    exact tM_map2 (ys := fun _ => flip n)
  rw [e]
  refine SB.cons (ST.set 2 (EV.c1 (ok_flipped W) (EV.nm 1) ⟨n, rfl, h0, hr, l2, l3, rfl⟩) c_multiplied.nd) (SB.one (ST.ret (EV.tuple (LC.ev (LC.lM 3 (xs := m) (f := tV) (g := fun q => .tup ((flip n).map fun c => .int (dot q c))) (own := [("row", 3)]) (by rfl) c_multiplied.nd rfl (EV.nm 0) rfl (Nat.le_refl _) OkM.refl l1 (fun q hq M => ?_))) rfl W.b.tuple)))
  exact EV.tuple (LC.ev (LC.lM 4 (xs := flip n) (f := tV) (g := fun c => .int (dot q c)) (own := [("column", 4)]) (by rfl) c_multiplied.nd rfl (EV.nm 2) rfl (Nat.le_refl _) OkM.refl (by rw [flip_length]; exact l3) (fun c hc M => EV.c2 (ok_times W) (EV.nm 3) (EV.nm 4) ⟨q, c, .inl ⟨rfl, rfl⟩, l4 q hq, fun x hx y hy => by
    obtain ⟨s, hs, hy'⟩ := flip_mem hr hc hy
    exact ok q hq x hx s hs y hy', rfl⟩))) rfl W.b.tuple
end
/-! ### the kernel -/
section
variable {g : Pg}
def okLen (n : Nat) : Bool := decide ((1 : Int) ≤ n) && decide ((n : Int) ≤ 64)
theorem okLen_iff {n : Nat} : okLen n = true ↔ 1 ≤ n ∧ n ≤ 64 := by
  unfold okLen
  rw [Bool.and_eq_true, decide_eq_true_eq, decide_eq_true_eq]
  omega
def tupLen (e : D) : Nat := (lenD e).getD 0
def itsD (e : D) : List D := (seqD e).getD []
def wideB : D → Bool
  | .tup ds => okLen ds.length && (ds.all (fun e => e.isTup && okLen (tupLen e)) && (ds.all (fun e => decide ((tupLen e : Int) = (tupLen (ds.headD .non) : Int))) && ds.all fun e => (itsD e).all D.isNum))
  | _ => false
theorem tup_len {e : D} (h : e.isTup = true) : lenD e = some (tupLen e) ∧ seqD e = some (itsD e) ∧ (itsD e).length = tupLen e := by
  cases e <;> first | exact ⟨rfl, rfl, rfl⟩ | cases h
theorem ok_is_wide (W : Wd g) : FN g "is_wide" 2 (P1 fun d r => r = .bl (wideB d)) := by
  refine FN.mk1 W.t_is_wide c_is_wide (fun _ _ _ _ _ _ us hl => match us, hl with | [_], _ => rfl) (fun d r h => ?_)
  subst h
  by_cases hd : d.isTup = true
  · obtain ⟨ds, rfl⟩ : ∃ ds, d = .tup ds := by
      cases d <;> first | exact ⟨_, rfl⟩ | cases hd
    have hlt : okLen ds.length = true → ds.length ≤ 64 := fun h => (okLen_iff.mp h).2
    refine SB.guard (k := !okLen ds.length) (ET.to (EW.et (EW.or (k1 := false) (ET.to (ET.not (ET.val (EV.isTuple (EV.nm 0) W.b.isinstance W.b.tuple))) rfl) (fun _ => EW.or1 (ET.not (ET.chain EV.int (EV.len (EV.nm 0) rfl W.b.len) CS.leI (fun _ => EV.int) (fun _ => CS.leI) (fun _ => rfl)))) (fun z => nomatch z))) rfl) (fun z => ?_) (fun z => ?_)
    · refine SB.one (ST.ret (EV.to EV.bl ?_))
      have z' : okLen ds.length = false := by simpa using z
      show _ = O.dat (.bl (okLen ds.length && _))
      rw [z', Bool.false_and]
    · have z' : okLen ds.length = true := by simpa using z
      have hl := hlt z'
      refine SB.guard (M1 := []) (k := !ds.all fun e => e.isTup && okLen (tupLen e)) (ET.to (ET.not (ET.val (EV.all (bs := ds.map fun e => e.isTup && okLen (tupLen e)) ?_ W.b.all))) (by rw [all_map])) (fun y => ?_) (fun y => ?_)
      · rw [List.map_map]
        refine LC.ev (LC.lM 1 (xs := ds) (f := fun e => e) (own := [("row", 1)]) (by rfl) c_is_wide.nd rfl (EV.nm 0) (by rw [List.map_id']; rfl) (Nat.le_refl _) OkM.refl (by omega) (fun e he M => ?_))
        show EV _ _ _ _ (.dat (.bl (e.isTup && okLen (tupLen e)))) _
        cases ht : e.isTup with
        | true => exact EV.to (EV.and (k1 := true) (EV.to (EV.isTuple (EV.nm 1) W.b.isinstance W.b.tuple) (by rw [ht])) (fun _ => EV.and1 (EV.chain (M4 := M) EV.int (EV.len (EV.nm 1) (tup_len ht).1 W.b.len) CS.leI (fun _ => EV.int) (fun _ => CS.leI) (fun _ => rfl))) (fun z => nomatch z)) rfl
        | false => exact EV.to (EV.and (k1 := false) (k2 := true) (EV.to (EV.isTuple (EV.nm 1) W.b.isinstance W.b.tuple) (by rw [ht])) (fun z => nomatch z) (fun _ => rfl)) rfl
      · refine SB.one (ST.ret (EV.to EV.bl ?_))
        have y' : (ds.all fun e => e.isTup && okLen (tupLen e)) = false := by simpa using y
        show _ = O.dat (.bl (okLen ds.length && (ds.all _ && _)))
        rw [y', Bool.false_and, Bool.and_false]
      · have y' : (ds.all fun e => e.isTup && okLen (tupLen e)) = true := by simpa using y
        have hall : ∀ e ∈ ds, e.isTup = true ∧ okLen (tupLen e) = true := fun e he => by
          have := List.all_eq_true.mp y' e he
          rwa [Bool.and_eq_true] at this
        have h0 : ixD (.tup ds) ((0 : Nat) : Int) = some (ds.headD .non) ∧ lenD (ds.headD .non) = some (tupLen (ds.headD .non)) := by
          cases ds with
          | nil => exact absurd z' (by decide)
          | cons e0 r0 => exact ⟨atI_nat rfl, (tup_len (hall e0 List.mem_cons_self).1).1⟩
        refine SB.guard (M1 := []) (k := !ds.all fun e => decide ((tupLen e : Int) = (tupLen (ds.headD .non) : Int))) (ET.to (ET.not (ET.val (EV.all (bs := ds.map fun e => decide ((tupLen e : Int) = (tupLen (ds.headD .non) : Int))) ?_ W.b.all))) (by rw [all_map])) (fun x => ?_) (fun x => ?_)
        · rw [List.map_map]
          refine LC.ev (LC.lM 1 (xs := ds) (f := fun e => e) (own := [("row", 1)]) (by rfl) c_is_wide.nd rfl (EV.nm 0) (by rw [List.map_id']; rfl) (Nat.le_refl _) OkM.refl (by omega) (fun e he M => ?_))
          exact EV.cm (EV.len (EV.nm 1) (tup_len (hall e he).1).1 W.b.len) (EV.len (EV.ix (EV.nm 0) EV.int h0.1) h0.2 W.b.len) CS.eqI
        · refine SB.one (ST.ret (EV.to EV.bl ?_))
          have x' : (ds.all fun e => decide ((tupLen e : Int) = (tupLen (ds.headD .non) : Int))) = false := by simpa using x
          show _ = O.dat (.bl (okLen ds.length && (_ && (ds.all _ && _))))
          rw [x', Bool.false_and, Bool.and_false, Bool.and_false]
        · have x' : (ds.all fun e => decide ((tupLen e : Int) = (tupLen (ds.headD .non) : Int))) = true := by simpa using x
          have hcnt : ∀ (l : List D), (∀ e ∈ l, okLen (tupLen e) = true ∧ e.isTup = true) → (l.flatMap fun u => (itsD u).map fun v => D.bl v.isNum).length ≤ 64 * l.length := fun l => by
            induction l with
            | nil => intro _; simp
            | cons e l ih =>
              intro h
              have h1 := ih fun e he => h e (List.mem_cons_of_mem _ he)
              have h2 := (okLen_iff.mp (h e List.mem_cons_self).1).2
              have h3 := (tup_len (h e List.mem_cons_self).2).2.2
              rw [List.flatMap_cons, List.length_append, List.length_map, List.length_cons]
              omega
          have hc := hcnt ds fun e he => ⟨(hall e he).2, (hall e he).1⟩
          refine SB.one (ST.ret (EV.to (EV.all (bs := ds.flatMap fun e => (itsD e).map D.isNum) ?_ W.b.all) ?_))
          · rw [List.map_flatMap]
            refine EV.to (LC2.ev 1 2 (xs := ds) (f := fun e => e) (ys := itsD) (f' := fun e => e) (dy := fun e => e) (gg := fun _ v => .bl v.isNum) (own := [("row", 1), ("one", 2)]) (by rfl) c_is_wide.nd rfl (by decide) (EV.nm 0) (by rw [List.map_id']; rfl) (Nat.le_refl _) OkM.refl (by omega) (fun e he M => ⟨EV.nm 1, by rw [List.map_id']; exact (tup_len (hall e he).1).2.1⟩) (fun e he v hv M => EV.c1 (ok_is_number W) (EV.nm 2) (by exact rfl))) ?_
            have e3 : (ds.flatMap fun e => (itsD e).map fun v => D.bl v.isNum) = ds.flatMap fun e => ((itsD e).map D.isNum).map D.bl := by
              congr 1
              funext e
              rw [List.map_map]
              rfl
            rw [e3]
          · show _ = O.dat (.bl (okLen ds.length && (ds.all _ && (ds.all _ && ds.all _))))
            rw [z', y', x', Bool.true_and, Bool.true_and, Bool.true_and, List.all_flatMap]
            congr 3
            funext e
            rw [List.all_map]
            rfl
  · have hd' : d.isTup = false := by simpa using hd
    have hw : wideB d = false := by
      cases d <;> first | rfl | cases hd'
    rw [hw]
    exact SB.stop (ST.yes (ET.to (EW.et (EW.or (k1 := true) (k2 := true) (ET.to (ET.not (ET.val (EV.isTuple (EV.nm 0) W.b.isinstance W.b.tuple))) (by rw [hd']; rfl)) (fun z => nomatch z) (fun _ => rfl))) rfl) (SB.one (ST.ret EV.bl)))
end
section
variable {g : Pg}
def tgOf : Stmt → Expr
  | .For t _ _ _ _ => t
  | _ => .Constant .none 0 ⟨0, 0, 0, 0⟩
theorem mem_getD {α : Type} {m : List α} {a0 : α} {i : Nat} (hi : i < m.length) : m.getD i a0 ∈ m := by
  rw [List.getD_eq_getElem?_getD, List.getElem?_eq_getElem hi]
  exact List.getElem_mem hi
structure W64 (m : List (List Int)) : Prop where
  l : 1 ≤ m.length ∧ m.length ≤ 64
  w : 1 ≤ wd m ∧ wd m ≤ 64
  rect : ∀ r ∈ m, r.length = wd m
def D.toI : D → Int
  | .int i => i
  | _ => 0
theorem nums_of : ∀ {l : List D}, l.all D.isNum = true → l = (l.map D.toI).map .int
  | [], _ => rfl
  | d :: l, h => by
    rw [List.all_cons, Bool.and_eq_true] at h
    rw [List.map_cons, List.map_cons, ← nums_of h.2]
    congr 1
    cases d <;> first | rfl | cases h.1
theorem wide_tM {d : D} (h : wideB d = true) : ∃ m, d = tM m ∧ W64 m := by
  obtain ⟨ds, rfl⟩ : ∃ ds, d = .tup ds := by
    cases d <;> first | exact ⟨_, rfl⟩ | cases h
  have h' : (okLen ds.length && (ds.all (fun e => e.isTup && okLen (tupLen e)) && (ds.all (fun e => decide ((tupLen e : Int) = (tupLen (ds.headD .non) : Int))) && ds.all fun e => (itsD e).all D.isNum))) = true := h
  rw [Bool.and_eq_true, Bool.and_eq_true, Bool.and_eq_true, List.all_eq_true, List.all_eq_true, List.all_eq_true] at h'
  obtain ⟨h1, h2, h3, h4⟩ := h'
  have hrow : ∀ e ∈ ds, e = tV ((itsD e).map D.toI) ∧ ((itsD e).map D.toI).length = tupLen e ∧ okLen (tupLen e) = true ∧ tupLen e = tupLen (ds.headD .non) := fun e he => by
    have a := h2 e he
    rw [Bool.and_eq_true] at a
    have b := tup_len a.1
    refine ⟨?_, by rw [List.length_map]; exact b.2.2, a.2, by have := of_decide_eq_true (h3 e he); omega⟩
    have c := nums_of (h4 e he)
    cases e with
    | tup es => exact congrArg D.tup c
    | _ => cases a.1
  have e1 : ds = (ds.map fun e => (itsD e).map D.toI).map tV := by
    rw [List.map_map]
    conv => lhs; rw [← List.map_id ds]
    exact List.map_congr_left fun e he => (hrow e he).1
  have hl := okLen_iff.mp h1
  have hw : wd (ds.map fun e => (itsD e).map D.toI) = tupLen (ds.headD .non) ∧ okLen (tupLen (ds.headD .non)) = true := by
    cases ds with
    | nil => exact absurd hl.1 (by simp)
    | cons e0 r0 => exact ⟨(hrow e0 List.mem_cons_self).2.1, (hrow e0 List.mem_cons_self).2.2.1⟩
  refine ⟨ds.map fun e => (itsD e).map D.toI, congrArg D.tup e1, ⟨by rw [List.length_map]; exact hl, by rw [hw.1]; exact okLen_iff.mp hw.2, fun r hr => ?_⟩⟩
  obtain ⟨e, he, rfl⟩ := List.mem_map.mp hr
  rw [hw.1, (hrow e he).2.1, (hrow e he).2.2.2]
theorem tM_wide {m : List (List Int)} (h : W64 m) : wideB (tM m) = true := by
  show (okLen (m.map tV).length && ((m.map tV).all _ && ((m.map tV).all _ && (m.map tV).all _))) = true
  have h0 : tupLen ((m.map tV).headD .non) = wd m := by
    cases m with
    | nil => exact absurd h.l.1 (by simp)
    | cons r q => exact List.length_map _
  have ht : ∀ r : List Int, tupLen (tV r) = r.length := fun r => List.length_map _
  rw [List.length_map, okLen_iff.mpr h.l, h0, List.all_map, List.all_map, List.all_map, Bool.true_and, Bool.and_eq_true, Bool.and_eq_true, List.all_eq_true, List.all_eq_true, List.all_eq_true]
  refine ⟨fun r hr => ?_, fun r hr => ?_, fun r hr => ?_⟩
  · show (true && okLen (tupLen (tV r))) = true
    rw [ht, h.rect r hr, okLen_iff.mpr h.w]
    rfl
  · show decide ((tupLen (tV r) : Int) = _) = true
    rw [ht, h.rect r hr]
    exact decide_eq_true rfl
  · show (r.map D.int).all D.isNum = true
    rw [List.all_map, List.all_eq_true]
    exact fun _ _ => rfl
theorem W64.ne {m : List (List Int)} (h : W64 m) : m ≠ [] := fun e => by
  have := h.l.1
  rw [e] at this
  exact absurd this (by decide)
theorem flat_len {m : List (List Int)} {w : Nat} : (∀ r ∈ m, r.length = w) → m.flatten.length = w * m.length := by
  induction m with
  | nil => intro _; rfl
  | cons r m ih =>
    intro h
    rw [List.flatten_cons, List.length_append, ih fun q hq => h q (List.mem_cons_of_mem _ hq), h r List.mem_cons_self, List.length_cons, Nat.mul_succ]
    omega
theorem W64.flat {m : List (List Int)} (h : W64 m) : m.flatten.length < 100000 := by
  rw [flat_len h.rect]
  have := Nat.mul_le_mul h.w.2 h.l.2
  omega
theorem flat_map (m : List (List Int)) : (m.flatMap fun u => u.map D.int) = m.flatten.map D.int := by
  induction m with
  | nil => rfl
  | cons r m ih => rw [List.flatMap_cons, ih, List.flatten_cons, List.map_append]
theorem ok_numbers_of (W : Wd g) : FN g "numbers_of" 1 (P1 fun d r => ∃ m, W64 m ∧ d = tM m ∧ r = lV m.flatten) := by
  refine FN.mk1 W.t_numbers_of c_numbers_of (fun _ _ _ _ _ _ us hl => match us, hl with | [_], _ => rfl) (fun d r h => ?_)
  obtain ⟨m, hm, rfl, rfl⟩ := h
  have hf := hm.flat
  refine SB.one (ST.ret (EV.to (LC2.ev 1 2 (xs := m) (f := tV) (ys := fun u => u) (f' := D.int) (dy := tV) (gg := fun _ v => .int v) (own := [("row", 1), ("one", 2)]) (by rfl) c_numbers_of.nd rfl (by decide) (EV.nm 0) rfl (Nat.le_refl _) OkM.refl (by rw [flat_map, List.length_map]; exact hf) (fun e he M => ⟨EV.nm 1, rfl⟩) (fun e he v hv M => EV.nm 2)) ?_))
  rw [flat_map]
def partB (k x : Int) : Bool := if k = 0 then decide (x = 0) else decide (x % k = 0)
theorem ok_divides_all (W : Wd g) : FN g "divides_all" 2 (P2 fun d e r => ∃ k m, 0 ≤ k ∧ d = .int k ∧ W64 m ∧ e = tM m ∧ r = .bl (m.flatten.all (partB k))) := by
  refine FN.mk2 W.t_divides_all c_divides_all (fun _ _ _ _ _ _ us hl => match us, hl with | [_, _], _ => rfl) (fun d e r h => ?_)
  obtain ⟨k, m, hk, rfl, hm, rfl, rfl⟩ := h
  refine SB.one (ST.ret (EV.to (EV.all (bs := m.flatten.map (partB k)) ?_ W.b.all) (by rw [all_map])))
  rw [List.map_map]
  refine LC.ev (LC.lM 2 (xs := m.flatten) (f := D.int) (own := [("one", 2)]) (by rfl) c_divides_all.nd rfl (EV.c1 (ok_numbers_of W) (EV.nm 1) ⟨m, hm, rfl, rfl⟩) rfl (Nat.le_refl _) OkM.refl hm.flat (fun x hx M => ?_))
  show EV _ _ _ _ (.dat (.bl (partB k x))) _
  refine EV.ite (k := decide (k = 0)) (ET.cm (EV.nm 0) EV.int CS.eqI) (fun z => ?_) (fun z => ?_)
  · have z' : k = 0 := of_decide_eq_true z
    have e : partB k x = decide (x = 0) := if_pos z'
    rw [e]
    exact EV.cm (EV.nm 2) EV.int CS.eqI
  · have z' : k ≠ 0 := of_decide_eq_false z
    have e : partB k x = decide (x % k = 0) := if_neg z'
    rw [e]
    exact EV.cm (EV.mod (EV.nm 2) (EV.nm 0) (by omega)) EV.int CS.eqI
def optN : Option Nat → D
  | some p => .int (p : Int)
  | none => .non
def leadF (v : List Int) : Option Nat := v.findIdx? fun x => !decide (x = 0)
theorem ok_lead (W : Wd g) : FN g "lead" 1 (P1 fun d r => ∃ v, d = tV v ∧ r = optN (leadF v)) := by
  refine FN.mk1 W.t_lead c_lead (fun _ _ _ _ _ _ us hl => match us, hl with | [_], _ => rfl) (fun d r h => ?_)
  obtain ⟨v, rfl, rfl⟩ := h
  have hlen : (v.map D.int).length = v.length := List.length_map _
  have hat : ∀ i, i < v.length → atN (v.map D.int) i = .dat (.tup [.int (i : Int), .int (v.getD i 0)]) := fun i hi => by
    unfold atN
    rw [List.getD_eq_getElem?_getD, List.getElem?_map, getD_of_lt hi]
    rfl
  have step : ∀ (i : Nat) (hi : i < v.length), EG (mkC g n_lead s_lead 0) (tgOf ((defBody s_lead).getD 0 (.Pass ⟨0, 0, 0, 0⟩))) (atN (v.map D.int) i) [.dat (tV v), .no, .no] [] [.dat (tV v), .dat (.int (i : Int)), .dat (.int (v.getD i 0))] [] := fun i hi => by
    rw [hat i hi]
    exact EG.tup (ds := [.int (i : Int), .int (v.getD i 0)]) (EGs.cons (EG.nm 1 c_lead.nd) (EGs.cons (EG.nm 2 c_lead.nd) EGs.nil))
  cases hf : leadF v with
  | none =>
    have hz : ∀ i, i < v.length → v.getD i 0 = 0 := fun i hi => by
      have := List.findIdx?_eq_none_iff.mp hf (v.getD i 0) (mem_getD hi)
      simpa using this
    refine SB.cons (ST.for (m := v.length) (n := v.length) (E_ := fun _ => [.dat (tV v), .no, .no]) (M_ := fun _ => []) (hlen ▸ EI.enum (EV.nm 0) W.b.enumerate) Fg.refl rfl (Nat.le_refl _) (fun _ _ => True.intro) (fun i hi => ⟨_, _, _, step i hi, ?_, .inl (SB.one (ST.no (ET.to (ET.cm (EV.nm 2) EV.int CS.neI) (by rw [hz i hi]; rfl)) SB.nil))⟩) (.inl ⟨rfl, rfl⟩)) (SB.one (ST.ret EV.non))
    exact Fg.cons (Fg.no (Fg.no Fg.nil))
  | some p =>
    obtain ⟨hp, h1, h2⟩ := List.findIdx?_eq_some_iff_getElem.mp hf
    have hz : ∀ i, i < p → v.getD i 0 = 0 := fun i hi => by
      have := h2 i hi
      rw [List.getD_eq_getElem?_getD, List.getElem?_eq_getElem (by omega)]
      simpa using this
    have hp0 : (!decide (v.getD p 0 = 0)) = true := by
      rw [List.getD_eq_getElem?_getD, List.getElem?_eq_getElem hp]
      exact h1
    refine SB.stop (ST.for (m := p) (n := v.length) (E_ := fun _ => [.dat (tV v), .no, .no]) (M_ := fun _ => []) (hlen ▸ EI.enum (EV.nm 0) W.b.enumerate) Fg.refl rfl (Nat.le_of_lt hp) (fun _ _ => True.intro) (fun i hi => ⟨_, _, _, step i (by omega), ?_, .inl (SB.one (ST.no (ET.to (ET.cm (EV.nm 2) EV.int CS.neI) (by rw [hz i hi]; rfl)) SB.nil))⟩) (.inr ⟨hp, _, _, step p hp, .inl ⟨_, _, SB.one (ST.yes (ET.to (ET.cm (EV.nm 2) EV.int CS.neI) hp0) (SB.one (ST.ret (EV.nm 1)))), rfl⟩⟩))
    exact Fg.cons (Fg.no (Fg.no Fg.nil))
end
section
variable {g : Pg}
def thenOf : Stmt → List Stmt
  | .If _ y _ _ => y
  | _ => []
def ifOf : Stmt → Expr
  | .If c _ _ _ => c
  | _ => .Constant .none 0 ⟨0, 0, 0, 0⟩
def bodyOf : Stmt → List Stmt
  | .For _ _ b _ _ => b
  | _ => []
theorem least {P : Nat → Prop} : ∀ m, P m → ∃ k, k ≤ m ∧ P k ∧ ∀ j, j < k → ¬ P j := fun m => by
  induction m using Nat.strongRecOn with
  | _ m ih =>
    intro h
    by_cases hk : ∃ j, j < m ∧ P j
    · obtain ⟨j, hj, hp⟩ := hk
      obtain ⟨k, h1, h2, h3⟩ := ih j hj hp
      exact ⟨k, by omega, h2, h3⟩
    · exact ⟨m, Nat.le_refl _, h, fun j hj hp => hk ⟨j, hj, hp⟩⟩
/-- one row of stairs: the place behind, or none where the stairs break -/
def stp (last : Int) (r : List Int) : Option Int := match leadF r with
  | none => some r.length
  | some p => if (p : Int) ≤ last then none else some p
def lasts (m : List (List Int)) : Nat → Int
  | 0 => -1
  | i + 1 => (stp (lasts m i) (m.getD i [])).getD 0
def echB (m : List (List Int)) : Bool := (List.range m.length).all fun i => (stp (lasts m i) (m.getD i [])).isSome
theorem ok_is_echelon (W : Wd g) : FN g "is_echelon" 2 (P1 fun d r => ∃ m, d = tM m ∧ r = .bl (echB m)) := by
  refine FN.mk1 W.t_is_echelon c_is_echelon (fun _ _ _ _ _ _ us hl => match us, hl with | [_], _ => rfl) (fun d r h => ?_)
  obtain ⟨m, rfl, rfl⟩ := h
  have hlen : (m.map tV).length = m.length := List.length_map _
  have hat : ∀ i, i < m.length → atO (m.map tV) i = .dat (tV (m.getD i [])) := fun i hi => by
    rw [atO_map hi, List.getD_eq_getElem?_getD, List.getElem?_eq_getElem hi]
    rfl
  let E := fun (l : Int) => ([.dat (tM m), .dat (.int l), .no, .no] : List O)
  have good : ∀ (l l' : Int) (rw' : List Int), stp l rw' = some l' → ∃ E2, Fg E2 (E l') ∧ SB (mkC g n_is_echelon s_is_echelon 1) (bodyOf ((defBody s_is_echelon).getD 1 (.Pass ⟨0, 0, 0, 0⟩))) [.dat (tM m), .dat (.int l), .dat (tV rw'), .no] [] (.nx E2 []) := fun l l' rw' hs => by
    cases hl : leadF rw' with
    | none =>
      have e : l' = (rw'.length : Int) := by
        unfold stp at hs
        rw [hl] at hs
        exact (Option.some.inj hs).symm
      subst e
      refine ⟨_, ?_, SB.cons (ST.set 3 (EV.to (EV.c1 (ok_lead W) (EV.nm 2) ⟨rw', rfl, rfl⟩) (by rw [hl])) c_is_echelon.nd) (SB.one (ST.yes (ET.to (ET.isN (d := .non) (EV.nm 3)) rfl) (SB.one (ST.set 1 (EV.len (EV.nm 2) len_tV W.b.len) c_is_echelon.nd))))⟩
      exact Fg.cons (Fg.cons (Fg.no (Fg.no Fg.nil)))
    | some p =>
      unfold stp at hs
      rw [hl] at hs
      have hs' : (if (p : Int) ≤ l then none else some (p : Int)) = some l' := hs
      by_cases hp : (p : Int) ≤ l
      · rw [if_pos hp] at hs'
        cases hs'
      · rw [if_neg hp] at hs'
        cases hs'
        refine ⟨_, ?_, SB.cons (ST.set 3 (EV.to (EV.c1 (ok_lead W) (EV.nm 2) ⟨rw', rfl, rfl⟩) (by rw [hl])) c_is_echelon.nd) (SB.one (ST.no (ET.to (ET.isN (d := .int (p : Int)) (EV.nm 3)) rfl) (SB.one (ST.no (ET.to (ET.cm (EV.nm 3) (EV.nm 1) CS.leI) (decide_eq_false hp)) (SB.one (ST.set 1 (EV.nm 3) c_is_echelon.nd))))))⟩
        exact Fg.cons (Fg.cons (Fg.no (Fg.no Fg.nil)))
  have bad : ∀ (l : Int) (rw' : List Int), stp l rw' = none → SB (mkC g n_is_echelon s_is_echelon 1) (bodyOf ((defBody s_is_echelon).getD 1 (.Pass ⟨0, 0, 0, 0⟩))) [.dat (tM m), .dat (.int l), .dat (tV rw'), .no] [] (.rt (.dat (.bl false)) []) := fun l rw' hs => by
    cases hl : leadF rw' with
    | none =>
      unfold stp at hs
      rw [hl] at hs
      cases hs
    | some p =>
      unfold stp at hs
      rw [hl] at hs
      have hs' : (if (p : Int) ≤ l then none else some (p : Int)) = none := hs
      by_cases hp : (p : Int) ≤ l
      · exact SB.cons (ST.set 3 (EV.to (EV.c1 (ok_lead W) (EV.nm 2) ⟨rw', rfl, rfl⟩) (by rw [hl])) c_is_echelon.nd) (SB.one (ST.no (ET.to (ET.isN (d := .int (p : Int)) (EV.nm 3)) rfl) (SB.one (ST.yes (ET.to (ET.cm (EV.nm 3) (EV.nm 1) CS.leI) (decide_eq_true hp)) (SB.one (ST.ret EV.bl))))))
      · rw [if_neg hp] at hs'
        cases hs'
  have gs : ∀ i, i < m.length → (stp (lasts m i) (m.getD i [])).isSome = true → stp (lasts m i) (m.getD i []) = some (lasts m (i + 1)) := fun i hi hs => by
    obtain ⟨v, hv⟩ := Option.isSome_iff_exists.mp hs
    rw [hv]
    show some v = some ((stp (lasts m i) (m.getD i [])).getD 0)
    rw [hv]
    rfl
  by_cases hex : ∃ i, i < m.length ∧ stp (lasts m i) (m.getD i []) = none
  · obtain ⟨i, hi1, hi2⟩ := hex
    obtain ⟨k, hk1, hk2, hk3⟩ := least (P := fun i => stp (lasts m i) (m.getD i []) = none) i hi2
    have e : echB m = false := by
      rw [← Bool.not_eq_true]
      intro h
      have := List.all_eq_true.mp h k (List.mem_range.mpr (by omega))
      rw [hk2] at this
      cases this
    rw [e]
    refine SB.cons (ST.set 1 (EV.neg EV.int) c_is_echelon.nd) (SB.stop (ST.for (m := k) (n := m.length) (E_ := fun i => E (lasts m i)) (M_ := fun _ => []) (hlen ▸ EI.tup (EV.nm 0)) Fg.refl rfl (by omega) (fun _ _ => True.intro) (fun i hi => ?_) (.inr ⟨by omega, _, _, EG.nm 2 c_is_echelon.nd, .inl ⟨_, _, ?_, rfl⟩⟩)))
    · have hs : (stp (lasts m i) (m.getD i [])).isSome = true := by
        rw [Option.isSome_iff_ne_none]
        exact hk3 i hi
      obtain ⟨E2, h1, h2⟩ := good _ _ _ (gs i (by omega) hs)
      refine ⟨_, _, E2, EG.nm 2 c_is_echelon.nd, h1, .inl ?_⟩
      rw [hat i (by omega)]
      exact h2
    · rw [hat k (by omega)]
      exact bad _ _ hk2
  · have hall : ∀ i, i < m.length → (stp (lasts m i) (m.getD i [])).isSome = true := fun i hi => by
      rw [Option.isSome_iff_ne_none]
      exact fun h => hex ⟨i, hi, h⟩
    have e : echB m = true := List.all_eq_true.mpr fun i hi => hall i (List.mem_range.mp hi)
    rw [e]
    refine SB.cons (ST.set 1 (EV.neg EV.int) c_is_echelon.nd) (SB.cons (ST.for (m := m.length) (n := m.length) (E_ := fun i => E (lasts m i)) (M_ := fun _ => []) (hlen ▸ EI.tup (EV.nm 0)) Fg.refl rfl (Nat.le_refl _) (fun _ _ => True.intro) (fun i hi => ?_) (.inl ⟨rfl, rfl⟩)) (SB.one (ST.ret EV.bl)))
    obtain ⟨E2, h1, h2⟩ := good _ _ _ (gs i hi (hall i hi))
    refine ⟨_, _, E2, EG.nm 2 c_is_echelon.nd, h1, .inl ?_⟩
    rw [hat i hi]
    exact h2
def prodB (a b c : List (List Int)) : Bool := decide ((wd a : Int) = (b.length : Int)) && decide (mulM a b = c)
theorem ok_is_product (W : Wd g) : FN g "is_product" 3 (P3 fun d e f r => ∃ a b c, W64 a ∧ W64 b ∧ MulOk a b ∧ d = tM a ∧ e = tM b ∧ f = tM c ∧ r = .bl (prodB a b c)) := by
  refine FN.mk3 W.t_is_product c_is_product (fun _ _ _ _ _ _ us hl => match us, hl with | [_, _, _], _ => rfl) (fun d e f r h => ?_)
  obtain ⟨a, b, c, ha, hb, ok, rfl, rfl, rfl, rfl⟩ := h
  have a1 := ha.l.2
  have b1 := hb.l.2
  have b2 := hb.w.2
  have a2 := ha.w.2
  exact SB.one (ST.ret (EV.and (EV.cm (EV.len (EV.ix (EV.nm 0) EV.int (ix_tM0 ha.ne)) len_tV W.b.len) (EV.len (EV.nm 1) len_tM W.b.len) CS.eqI) (fun _ => EV.and1 (EV.cm (EV.c2 (ok_multiplied W) (EV.nm 0) (EV.nm 1) ⟨a, b, rfl, rfl, hb.ne, hb.rect, by omega, by omega, by omega, fun q hq => by rw [ha.rect q hq]; omega, ok, rfl⟩) (EV.nm 2) CS.eqM)) (fun _ => rfl)))
/-! ### claims -/
def ixI (ds : List D) (i : Nat) : D := ds.getD i .non
def geB (d : D) : Bool := d.isNum && decide (0 ≤ d.toI)
def formB (w : Str) (ds : List D) : Bool :=
  if inS w ["divides", "not divides"] = true then geB (ixI ds 1) && wideB (ixI ds 2)
  else if inS w ["least", "less"] = true then wideB (ixI ds 1) && (ixI ds 2).isNum
  else (ds.drop 1).all wideB
def claimB : D → Bool
  | .tup (.str w :: ds) => decide (1 ≤ ds.length) && (decide (tab_SIZES w = some ((ds.length : Int) + 1)) && formB w (.str w :: ds))
  | _ => false
theorem ok_is_claim (W : Wd g) : FN g "is_claim" 3 (P1 fun d r => (∀ ds, d = .tup ds → ds.length < 100000) ∧ r = .bl (claimB d)) := by
  refine FN.mk1 W.t_is_claim c_is_claim (fun _ _ _ _ _ _ us hl => match us, hl with | [_], _ => rfl) (fun d r h => ?_)
  obtain ⟨hlen, rfl⟩ := h
  by_cases hd : d.isTup = true
  · obtain ⟨ds, rfl⟩ : ∃ ds, d = .tup ds := by
      cases d <;> first | exact ⟨_, rfl⟩ | cases hd
    have hl := hlen ds rfl
    clear hlen
    have short : ds.length < 2 → claimB (.tup ds) = false → SB (mkC g n_is_claim s_is_claim 2) (defBody s_is_claim) (pad n_is_claim [.dat (.tup ds)]) [] (.rt (.dat (.bl (claimB (.tup ds)))) []) := fun h2 hc => by
      rw [hc]
      exact SB.stop (ST.yes (ET.to (EW.et (EW.or (k1 := false) (ET.to (ET.not (ET.val (EV.isTuple (EV.nm 0) W.b.isinstance W.b.tuple))) rfl) (fun _ => EW.or (k1 := true) (k2 := true) (ET.to (ET.cm (EV.len (EV.nm 0) rfl W.b.len) EV.int CS.ltI) (decide_eq_true (by omega))) (fun z => nomatch z) (fun _ => rfl)) (fun z => nomatch z))) rfl) (SB.one (ST.ret EV.bl)))
    cases ds with
    | nil => exact short (by decide) rfl
    | cons x ds =>
      cases ds with
      | nil => exact short (by simp) (by cases x <;> rfl)
      | cons y ds =>
        have h0 : ixD (.tup (x :: y :: ds)) ((0 : Nat) : Int) = some x := atI_nat rfl
        have h1 : ixD (.tup (x :: y :: ds)) ((1 : Nat) : Int) = some y := atI_nat rfl
        have hnot : ¬ ((((x :: y :: ds).length : Nat) : Int) < 2) := by simp; omega
        have first : ∀ {k : Bool}, k = !x.isStr → ET (mkC g n_is_claim s_is_claim 2) (ifOf ((defBody s_is_claim).getD 0 (.Pass ⟨0, 0, 0, 0⟩))) (pad n_is_claim [.dat (.tup (x :: y :: ds))]) [] k [] := fun {k} hk => by
          subst hk
          exact ET.to (EW.et (EW.or (k1 := false) (ET.to (ET.not (ET.val (EV.isTuple (EV.nm 0) W.b.isinstance W.b.tuple))) rfl) (fun _ => EW.or (k1 := false) (ET.to (ET.cm (EV.len (EV.nm 0) rfl W.b.len) EV.int CS.ltI) (decide_eq_false hnot)) (fun _ => EW.or1 (ET.not (ET.val (EV.isStr (EV.ix (EV.nm 0) EV.int h0) W.b.isinstance W.b.str)))) (fun z => nomatch z)) (fun z => nomatch z))) rfl
        by_cases hx : x.isStr = true
        · obtain ⟨w, rfl⟩ : ∃ w, x = .str w := by
            cases x <;> first | exact ⟨_, rfl⟩ | cases hx
          have hw : (1 ≤ (y :: ds).length) := by simp
          have hcl : claimB (.tup (.str w :: y :: ds)) = (decide (tab_SIZES w = some (((y :: ds).length : Int) + 1)) && formB w (.str w :: y :: ds)) := by
            show (decide (1 ≤ (y :: ds).length) && _) = _
            rw [decide_eq_true hw]
            rfl
          rw [hcl]
          refine SB.cons (ST.no (first rfl) SB.nil) ?_
          by_cases ht : tab_SIZES w = some (((y :: ds).length : Int) + 1)
          · rw [decide_eq_true ht, Bool.true_and]
            refine SB.cons (ST.no (ET.to (ET.cm (o1 := .dat (.int (((y :: ds).length : Int) + 1))) (EV.to (EV.dget W.g_SIZES (EV.ix (EV.nm 0) EV.int h0)) (by rw [ht]; rfl)) (EV.len (EV.nm 0) rfl W.b.len) CS.neI) (by simp)) SB.nil) ?_
            by_cases hv : inS w ["divides", "not divides"] = true
            · have hlen3 : tab_SIZES w = some 3 := by
                unfold inS at hv
                simp at hv
                rcases hv with rfl | rfl <;> rfl
              obtain ⟨z, rfl⟩ : ∃ z, ds = [z] := by
                rw [hlen3] at ht
                have := Option.some.inj ht
                cases ds with
                | nil => simp at this
                | cons z q =>
                  cases q with
                  | nil => exact ⟨z, rfl⟩
                  | cons _ _ => simp at this; omega
              have h2 : ixD (.tup (.str w :: y :: [z])) ((2 : Nat) : Int) = some z := atI_nat rfl
              have hf : formB w [.str w, y, z] = (geB y && wideB z) := if_pos hv
              rw [hf]
              refine SB.stop (ST.yes (ET.to (ET.cm (EV.ix (EV.nm 0) EV.int h0) (EV.tup (ds := (["divides", "not divides"] : List Str).map D.str) (EA.cons EV.str (EA.cons EV.str EA.nil)) (by decide)) CS.inSt) hv) (SB.one (ST.ret ?_)))
              cases hy : y.isNum with
              | true =>
                obtain ⟨i, rfl⟩ : ∃ i, y = .int i := by
                  cases y <;> first | exact ⟨_, rfl⟩ | cases hy
                exact EV.to (EV.and (k1 := true) (EV.to (EV.c1 (ok_is_number W) (EV.ix (EV.nm 0) EV.int h1) (by exact rfl)) rfl) (fun _ => EV.and (EV.cm (EV.ix (EV.nm 0) EV.int h1) EV.int CS.geI) (fun _ => EV.and1 (EV.c1 (ok_is_wide W) (EV.ix (EV.nm 0) EV.int h2) (by exact rfl))) (fun _ => rfl)) (fun z => nomatch z)) (by show _ = O.dat (.bl ((true && _) && _)); rw [Bool.true_and, Bool.true_and]; rfl)
              | false => exact EV.to (EV.and (k1 := false) (k2 := true) (EV.to (EV.c1 (ok_is_number W) (EV.ix (EV.nm 0) EV.int h1) (by exact rfl)) (by rw [hy])) (fun z => nomatch z) (fun _ => rfl)) (by unfold geB; rw [hy]; rfl)
            · have hv' : inS w ["divides", "not divides"] = false := by simpa using hv
              refine SB.cons (ST.no (ET.to (ET.cm (EV.ix (EV.nm 0) EV.int h0) (EV.tup (ds := (["divides", "not divides"] : List Str).map D.str) (EA.cons EV.str (EA.cons EV.str EA.nil)) (by decide)) CS.inSt) hv') SB.nil) ?_
              by_cases hu : inS w ["least", "less"] = true
              · have hlen3 : tab_SIZES w = some 3 := by
                  unfold inS at hu
                  simp at hu
                  rcases hu with rfl | rfl <;> rfl
                obtain ⟨z, rfl⟩ : ∃ z, ds = [z] := by
                  rw [hlen3] at ht
                  have := Option.some.inj ht
                  cases ds with
                  | nil => simp at this
                  | cons z q =>
                    cases q with
                    | nil => exact ⟨z, rfl⟩
                    | cons _ _ => simp at this; omega
                have h2 : ixD (.tup (.str w :: y :: [z])) ((2 : Nat) : Int) = some z := atI_nat rfl
                have hf : formB w [.str w, y, z] = (wideB y && z.isNum) := by
                  show (if _ then _ else if _ then _ else _) = _
                  rw [if_neg hv, if_pos hu]
                  rfl
                rw [hf]
                exact SB.stop (ST.yes (ET.to (ET.cm (EV.ix (EV.nm 0) EV.int h0) (EV.tup (ds := (["least", "less"] : List Str).map D.str) (EA.cons EV.str (EA.cons EV.str EA.nil)) (by decide)) CS.inSt) hu) (SB.one (ST.ret (EV.and (EV.c1 (ok_is_wide W) (EV.ix (EV.nm 0) EV.int h1) (by exact rfl)) (fun _ => EV.and1 (EV.c1 (ok_is_number W) (EV.ix (EV.nm 0) EV.int h2) (by exact rfl))) (fun _ => rfl)))))
              · have hu' : inS w ["least", "less"] = false := by simpa using hu
                refine SB.cons (ST.no (ET.to (ET.cm (EV.ix (EV.nm 0) EV.int h0) (EV.tup (ds := (["least", "less"] : List Str).map D.str) (EA.cons EV.str (EA.cons EV.str EA.nil)) (by decide)) CS.inSt) hu') SB.nil) ?_
                have hf : formB w (.str w :: y :: ds) = (y :: ds).all wideB := by
                  show (if _ then _ else if _ then _ else _) = _
                  rw [if_neg hv, if_neg hu]
                  rfl
                have hcut : cutD (.str w :: y :: ds) (some 1) none = y :: ds := by
                  unfold cutD
                  have e1 : HT.sIx (D.str w :: y :: ds).length 0 (some ((1 : Nat) : Int)) = 1 := by
                    rw [HT.sIx_nat]
                    simp
                  rw [show (some (1 : Int)) = some ((1 : Nat) : Int) from rfl, e1]
                  show (y :: ds).take ((y :: ds).length + 1 - 1) = _
                  rw [Nat.add_sub_cancel, List.take_length]
                rw [hf]
                refine SB.one (ST.ret (EV.to (EV.all (bs := (y :: ds).map wideB) ?_ W.b.all) (by rw [all_map])))
                rw [List.map_map]
                exact LC.ev (LC.lM 1 (xs := y :: ds) (f := fun e => e) (own := [("table", 1)]) (by rfl) c_is_claim.nd rfl (EV.slT (EV.nm 0) (EO.some EV.int) EO.none) (by rw [hcut, List.map_id']; rfl) (Nat.le_refl _) OkM.refl (by simp at hl ⊢; omega) (fun e he M => EV.c1 (ok_is_wide W) (EV.nm 1) (by exact rfl)))
          · rw [decide_eq_false ht, Bool.false_and]
            cases hk : tab_SIZES w with
            | none => exact SB.stop (ST.yes (ET.cm (o1 := .dat .non) (EV.to (EV.dget W.g_SIZES (EV.ix (EV.nm 0) EV.int h0)) (by rw [hk]; rfl)) (EV.len (EV.nm 0) rfl W.b.len) CS.neNI) (SB.one (ST.ret EV.bl)))
            | some k =>
              refine SB.stop (ST.yes (ET.to (ET.cm (o1 := .dat (.int k)) (EV.to (EV.dget W.g_SIZES (EV.ix (EV.nm 0) EV.int h0)) (by rw [hk]; rfl)) (EV.len (EV.nm 0) rfl W.b.len) CS.neI) ?_) (SB.one (ST.ret EV.bl)))
              rw [hk] at ht
              simp at ht ⊢
              omega
        · have hx' : x.isStr = false := by simpa using hx
          have hc : claimB (.tup (x :: y :: ds)) = false := by
            cases x <;> first | rfl | cases hx'
          rw [hc]
          exact SB.stop (ST.yes (first (by rw [hx']; rfl)) (SB.one (ST.ret EV.bl)))
  · have hd' : d.isTup = false := by simpa using hd
    have hw : claimB d = false := by
      cases d <;> first | rfl | cases hd'
    rw [hw]
    exact SB.stop (ST.yes (ET.to (EW.et (EW.or (k1 := true) (k2 := true) (ET.to (ET.not (ET.val (EV.isTuple (EV.nm 0) W.b.isinstance W.b.tuple))) (by rw [hd']; rfl)) (fun z => nomatch z) (fun _ => rfl))) rfl) (SB.one (ST.ret EV.bl)))
end
section
variable {g : Pg}
/-- claims of good form, and whether they hold -/
inductive CL : D → Bool → Prop
  | product {a b c : List (List Int)} (ha : W64 a) (hb : W64 b) (hc : W64 c) : CL (.tup [.str "product", tM a, tM b, tM c]) (prodB a b c)
  | same {a b : List (List Int)} (ha : W64 a) (hb : W64 b) : CL (.tup [.str "same", tM a, tM b]) (decide (a = b))
  | divides {k : Int} {m : List (List Int)} (hk : 0 ≤ k) (hm : W64 m) : CL (.tup [.str "divides", .int k, tM m]) (m.flatten.all (partB k))
  | notdiv {k : Int} {m : List (List Int)} (hk : 0 ≤ k) (hm : W64 m) : CL (.tup [.str "not divides", .int k, tM m]) (!m.flatten.all (partB k))
  | least {k : Int} {m : List (List Int)} (hm : W64 m) : CL (.tup [.str "least", tM m, .int k]) (m.flatten.all fun x => decide (k ≤ x))
  | less {k : Int} {m : List (List Int)} (hm : W64 m) : CL (.tup [.str "less", tM m, .int k]) (m.flatten.all fun x => decide (x < k))
  | echelon {m : List (List Int)} (hm : W64 m) : CL (.tup [.str "echelon", tM m]) (echB m)
theorem tM_inj {a b : List (List Int)} (h : tM a = tM b) : a = b := by
  have h1 : a.map tV = b.map tV := D.tup.inj h
  refine List.map_inj_right ?_ |>.mp h1
  intro x y hxy
  refine List.map_inj_right ?_ |>.mp (D.tup.inj hxy)
  intro i j hij
  exact D.int.inj hij
theorem CL.inj {d : D} {b b' : Bool} (h : CL d b) (h' : CL d b') : b = b' := by
  generalize hd : d = d' at h'
  cases h <;> cases h' <;> simp at hd <;> first
    | exact absurd hd.1 (by decide)
    | (obtain ⟨h1, h2, h3⟩ := hd; rw [tM_inj (congrArg D.tup h1), tM_inj (congrArg D.tup h2), tM_inj (congrArg D.tup h3)])
    | (obtain ⟨h1, h2⟩ := hd; first | rw [tM_inj (congrArg D.tup h1), tM_inj (congrArg D.tup h2)] | rw [h1, tM_inj (congrArg D.tup h2)] | rw [tM_inj (congrArg D.tup h1), h2])
    | rw [tM_inj (congrArg D.tup hd)]
theorem CL.claim {d : D} {b : Bool} (h : CL d b) : claimB d = true := by
  have w : ∀ {m : List (List Int)}, W64 m → wideB (tM m) = true := fun h => tM_wide h
  cases h with
  | product ha hb hc =>
    show (true && (true && (wideB (tM _) && (wideB (tM _) && (wideB (tM _) && true))))) = true
    rw [w ha, w hb, w hc]
    rfl
  | same ha hb =>
    show (true && (true && (wideB (tM _) && (wideB (tM _) && true)))) = true
    rw [w ha, w hb]
    rfl
  | @divides k m hk hm =>
    show (true && (true && ((true && decide (0 ≤ k)) && wideB (tM m)))) = true
    rw [w hm, decide_eq_true hk]
    rfl
  | @notdiv k m hk hm =>
    show (true && (true && ((true && decide (0 ≤ k)) && wideB (tM m)))) = true
    rw [w hm, decide_eq_true hk]
    rfl
  | least hm =>
    show (true && (true && (wideB (tM _) && true))) = true
    rw [w hm]
    rfl
  | less hm =>
    show (true && (true && (wideB (tM _) && true))) = true
    rw [w hm]
    rfl
  | echelon hm =>
    show (true && (true && (wideB (tM _) && true))) = true
    rw [w hm]
    rfl
theorem claim_cl {d : D} (h : claimB d = true) : ∃ b, CL d b := by
  obtain ⟨w, ds, rfl⟩ : ∃ w ds, d = .tup (.str w :: ds) := by
    cases d with
    | tup l =>
      cases l with
      | nil => cases h
      | cons x l => cases x <;> first | exact ⟨_, _, rfl⟩ | cases h
    | _ => cases h
  have h' : (decide (1 ≤ ds.length) && (decide (tab_SIZES w = some ((ds.length : Int) + 1)) && formB w (.str w :: ds))) = true := h
  rw [Bool.and_eq_true, Bool.and_eq_true, decide_eq_true_eq, decide_eq_true_eq] at h'
  obtain ⟨h1, h2, h3⟩ := h'
  have l1 : ∀ {x : D}, ds.length = 1 → ∃ x, ds = [x] := fun {_} h => by
    match ds, h with
    | [x], _ => exact ⟨x, rfl⟩
  have l2 : ds.length = 2 → ∃ x y, ds = [x, y] := fun h => by
    match ds, h with
    | [x, y], _ => exact ⟨x, y, rfl⟩
  have l3 : ds.length = 3 → ∃ x y z, ds = [x, y, z] := fun h => by
    match ds, h with
    | [x, y, z], _ => exact ⟨x, y, z, rfl⟩
  have num : ∀ {x : D}, x.isNum = true → ∃ i, x = .int i := fun {x} h => by
    cases x <;> first | exact ⟨_, rfl⟩ | cases h
  by_cases e1 : w = "product"
  · subst e1
    have h4 : (4 : Int) = ds.length + 1 := Option.some.inj h2
    obtain ⟨x, y, z, rfl⟩ := l3 (by omega)
    have h5 : (wideB x && (wideB y && (wideB z && true))) = true := h3
    simp only [Bool.and_eq_true] at h5
    obtain ⟨a, rfl, ha⟩ := wide_tM h5.1
    obtain ⟨b, rfl, hb⟩ := wide_tM h5.2.1
    obtain ⟨c, rfl, hc⟩ := wide_tM h5.2.2.1
    exact ⟨_, .product ha hb hc⟩
  by_cases e2 : w = "same"
  · subst e2
    have h4 : (3 : Int) = ds.length + 1 := Option.some.inj h2
    obtain ⟨x, y, rfl⟩ := l2 (by omega)
    have h5 : (wideB x && (wideB y && true)) = true := h3
    simp only [Bool.and_eq_true] at h5
    obtain ⟨a, rfl, ha⟩ := wide_tM h5.1
    obtain ⟨b, rfl, hb⟩ := wide_tM h5.2.1
    exact ⟨_, .same ha hb⟩
  by_cases e3 : w = "divides"
  · subst e3
    have h4 : (3 : Int) = ds.length + 1 := Option.some.inj h2
    obtain ⟨x, y, rfl⟩ := l2 (by omega)
    have h5 : ((x.isNum && decide (0 ≤ x.toI)) && wideB y) = true := h3
    rw [Bool.and_eq_true, Bool.and_eq_true, decide_eq_true_eq] at h5
    obtain ⟨i, rfl⟩ := num h5.1.1
    obtain ⟨b, rfl, hb⟩ := wide_tM h5.2
    exact ⟨_, .divides h5.1.2 hb⟩
  by_cases e4 : w = "not divides"
  · subst e4
    have h4 : (3 : Int) = ds.length + 1 := Option.some.inj h2
    obtain ⟨x, y, rfl⟩ := l2 (by omega)
    have h5 : ((x.isNum && decide (0 ≤ x.toI)) && wideB y) = true := h3
    rw [Bool.and_eq_true, Bool.and_eq_true, decide_eq_true_eq] at h5
    obtain ⟨i, rfl⟩ := num h5.1.1
    obtain ⟨b, rfl, hb⟩ := wide_tM h5.2
    exact ⟨_, .notdiv h5.1.2 hb⟩
  by_cases e5 : w = "least"
  · subst e5
    have h4 : (3 : Int) = ds.length + 1 := Option.some.inj h2
    obtain ⟨x, y, rfl⟩ := l2 (by omega)
    have h5 : (wideB x && y.isNum) = true := h3
    rw [Bool.and_eq_true] at h5
    obtain ⟨i, rfl⟩ := num h5.2
    obtain ⟨b, rfl, hb⟩ := wide_tM h5.1
    exact ⟨_, .least hb⟩
  by_cases e6 : w = "less"
  · subst e6
    have h4 : (3 : Int) = ds.length + 1 := Option.some.inj h2
    obtain ⟨x, y, rfl⟩ := l2 (by omega)
    have h5 : (wideB x && y.isNum) = true := h3
    rw [Bool.and_eq_true] at h5
    obtain ⟨i, rfl⟩ := num h5.2
    obtain ⟨b, rfl, hb⟩ := wide_tM h5.1
    exact ⟨_, .less hb⟩
  by_cases e7 : w = "echelon"
  · subst e7
    have h4 : (2 : Int) = ds.length + 1 := Option.some.inj h2
    obtain ⟨x, rfl⟩ := l1 (x := .non) (by omega)
    have h5 : (wideB x && true) = true := h3
    rw [Bool.and_eq_true] at h5
    obtain ⟨b, rfl, hb⟩ := wide_tM h5.1
    exact ⟨_, .echelon hb⟩
  · unfold tab_SIZES at h2
    rw [if_neg e1, if_neg e2, if_neg e3, if_neg e4, if_neg e5, if_neg e6, if_neg e7] at h2
    cases h2
def Mild (d : D) : Prop := (∀ ds, d = .tup ds → ds.length < 100000) ∧ (claimB d = true → ∀ a b c, d = .tup [.str "product", tM a, tM b, tM c] → MulOk a b)
theorem ok_is_so (W : Wd g) : FN g "is_so" 4 (P1 fun d r => ∃ b, CL d b ∧ Mild d ∧ r = .bl b) := by
  refine FN.mk1 W.t_is_so c_is_so (fun _ _ _ _ _ _ us hl => match us, hl with | [_], _ => rfl) (fun d r h => ?_)
  obtain ⟨b, hc, hm, rfl⟩ := h
  cases hc with
  | @product a b c ha hb hc =>
    have x0 : ixD (.tup [.str "product", tM a, tM b, tM c]) ((0 : Nat) : Int) = some (.str "product") := atI_nat rfl
    have x1 : ixD (.tup [.str "product", tM a, tM b, tM c]) ((1 : Nat) : Int) = some (tM a) := atI_nat rfl
    have x2 : ixD (.tup [.str "product", tM a, tM b, tM c]) ((2 : Nat) : Int) = some (tM b) := atI_nat rfl
    have x3 : ixD (.tup [.str "product", tM a, tM b, tM c]) ((3 : Nat) : Int) = some (tM c) := atI_nat rfl
    exact SB.cons (ST.set 1 (EV.ix (EV.nm 0) EV.int x0) c_is_so.nd) (SB.stop (ST.yes (ET.to (ET.cm (EV.nm 1) EV.str CS.eqS) rfl) (SB.one (ST.ret (EV.c3 (ok_is_product W) (EV.ix (EV.nm 0) EV.int x1) (EV.ix (EV.nm 0) EV.int x2) (EV.ix (EV.nm 0) EV.int x3) ⟨_, _, _, ha, hb, hm.2 (CL.product ha hb hc).claim _ _ _ rfl, rfl, rfl, rfl, rfl⟩)))))
  | @same a b ha hb =>
    have x0 : ixD (.tup [.str "same", tM a, tM b]) ((0 : Nat) : Int) = some (.str "same") := atI_nat rfl
    have x1 : ixD (.tup [.str "same", tM a, tM b]) ((1 : Nat) : Int) = some (tM a) := atI_nat rfl
    have x2 : ixD (.tup [.str "same", tM a, tM b]) ((2 : Nat) : Int) = some (tM b) := atI_nat rfl
    exact SB.cons (ST.set 1 (EV.ix (EV.nm 0) EV.int x0) c_is_so.nd) (SB.cons (ST.no (ET.to (ET.cm (EV.nm 1) EV.str CS.eqS) (by decide)) SB.nil) (SB.stop (ST.yes (ET.to (ET.cm (EV.nm 1) EV.str CS.eqS) rfl) (SB.one (ST.ret (EV.cm (EV.ix (EV.nm 0) EV.int x1) (EV.ix (EV.nm 0) EV.int x2) CS.eqM))))))
  | @divides k m hk hw =>
    have x0 : ixD (.tup [.str "divides", .int k, tM m]) ((0 : Nat) : Int) = some (.str "divides") := atI_nat rfl
    have x1 : ixD (.tup [.str "divides", .int k, tM m]) ((1 : Nat) : Int) = some (.int k) := atI_nat rfl
    have x2 : ixD (.tup [.str "divides", .int k, tM m]) ((2 : Nat) : Int) = some (tM m) := atI_nat rfl
    exact SB.cons (ST.set 1 (EV.ix (EV.nm 0) EV.int x0) c_is_so.nd) (SB.cons (ST.no (ET.to (ET.cm (EV.nm 1) EV.str CS.eqS) (by decide)) SB.nil) (SB.cons (ST.no (ET.to (ET.cm (EV.nm 1) EV.str CS.eqS) (by decide)) SB.nil) (SB.stop (ST.yes (ET.to (ET.cm (EV.nm 1) EV.str CS.eqS) rfl) (SB.one (ST.ret (EV.c2 (ok_divides_all W) (EV.ix (EV.nm 0) EV.int x1) (EV.ix (EV.nm 0) EV.int x2) ⟨_, _, hk, rfl, hw, rfl, rfl⟩)))))))
  | @notdiv k m hk hw =>
    have x0 : ixD (.tup [.str "not divides", .int k, tM m]) ((0 : Nat) : Int) = some (.str "not divides") := atI_nat rfl
    have x1 : ixD (.tup [.str "not divides", .int k, tM m]) ((1 : Nat) : Int) = some (.int k) := atI_nat rfl
    have x2 : ixD (.tup [.str "not divides", .int k, tM m]) ((2 : Nat) : Int) = some (tM m) := atI_nat rfl
    exact SB.cons (ST.set 1 (EV.ix (EV.nm 0) EV.int x0) c_is_so.nd) (SB.cons (ST.no (ET.to (ET.cm (EV.nm 1) EV.str CS.eqS) (by decide)) SB.nil) (SB.cons (ST.no (ET.to (ET.cm (EV.nm 1) EV.str CS.eqS) (by decide)) SB.nil) (SB.cons (ST.no (ET.to (ET.cm (EV.nm 1) EV.str CS.eqS) (by decide)) SB.nil) (SB.stop (ST.yes (ET.to (ET.cm (EV.nm 1) EV.str CS.eqS) rfl) (SB.one (ST.ret (EV.not (EV.c2 (ok_divides_all W) (EV.ix (EV.nm 0) EV.int x1) (EV.ix (EV.nm 0) EV.int x2) ⟨_, _, hk, rfl, hw, rfl, rfl⟩)))))))))
  | @least k m hw =>
    have x0 : ixD (.tup [.str "least", tM m, .int k]) ((0 : Nat) : Int) = some (.str "least") := atI_nat rfl
    have x1 : ixD (.tup [.str "least", tM m, .int k]) ((1 : Nat) : Int) = some (tM m) := atI_nat rfl
    have x2 : ixD (.tup [.str "least", tM m, .int k]) ((2 : Nat) : Int) = some (.int k) := atI_nat rfl
    exact SB.cons (ST.set 1 (EV.ix (EV.nm 0) EV.int x0) c_is_so.nd) (SB.cons (ST.no (ET.to (ET.cm (EV.nm 1) EV.str CS.eqS) (by decide)) SB.nil) (SB.cons (ST.no (ET.to (ET.cm (EV.nm 1) EV.str CS.eqS) (by decide)) SB.nil) (SB.cons (ST.no (ET.to (ET.cm (EV.nm 1) EV.str CS.eqS) (by decide)) SB.nil) (SB.cons (ST.no (ET.to (ET.cm (EV.nm 1) EV.str CS.eqS) (by decide)) SB.nil) (SB.stop (ST.yes (ET.to (ET.cm (EV.nm 1) EV.str CS.eqS) rfl) (SB.one (ST.ret (EV.to (EV.all (bs := m.flatten.map fun x => decide (k ≤ x)) (by rw [List.map_map]; exact LC.ev (LC.lM 2 (xs := m.flatten) (f := D.int) (own := [("one", 2)]) (by rfl) c_is_so.nd rfl (EV.c1 (ok_numbers_of W) (EV.ix (EV.nm 0) EV.int x1) ⟨m, hw, rfl, rfl⟩) rfl (Nat.le_refl _) OkM.refl hw.flat (fun x hx M => EV.cm (EV.nm 2) (EV.ix (EV.nm 0) EV.int x2) CS.geI))) W.b.all) (by rw [all_map]))))))))))
  | @less k m hw =>
    have x0 : ixD (.tup [.str "less", tM m, .int k]) ((0 : Nat) : Int) = some (.str "less") := atI_nat rfl
    have x1 : ixD (.tup [.str "less", tM m, .int k]) ((1 : Nat) : Int) = some (tM m) := atI_nat rfl
    have x2 : ixD (.tup [.str "less", tM m, .int k]) ((2 : Nat) : Int) = some (.int k) := atI_nat rfl
    exact SB.cons (ST.set 1 (EV.ix (EV.nm 0) EV.int x0) c_is_so.nd) (SB.cons (ST.no (ET.to (ET.cm (EV.nm 1) EV.str CS.eqS) (by decide)) SB.nil) (SB.cons (ST.no (ET.to (ET.cm (EV.nm 1) EV.str CS.eqS) (by decide)) SB.nil) (SB.cons (ST.no (ET.to (ET.cm (EV.nm 1) EV.str CS.eqS) (by decide)) SB.nil) (SB.cons (ST.no (ET.to (ET.cm (EV.nm 1) EV.str CS.eqS) (by decide)) SB.nil) (SB.cons (ST.no (ET.to (ET.cm (EV.nm 1) EV.str CS.eqS) (by decide)) SB.nil) (SB.stop (ST.yes (ET.to (ET.cm (EV.nm 1) EV.str CS.eqS) rfl) (SB.one (ST.ret (EV.to (EV.all (bs := m.flatten.map fun x => decide (x < k)) (by rw [List.map_map]; exact LC.ev (LC.lM 2 (xs := m.flatten) (f := D.int) (own := [("one", 2)]) (by rfl) c_is_so.nd rfl (EV.c1 (ok_numbers_of W) (EV.ix (EV.nm 0) EV.int x1) ⟨m, hw, rfl, rfl⟩) rfl (Nat.le_refl _) OkM.refl hw.flat (fun x hx M => EV.cm (EV.nm 2) (EV.ix (EV.nm 0) EV.int x2) CS.ltI))) W.b.all) (by rw [all_map])))))))))))
  | @echelon m hw =>
    have x0 : ixD (.tup [.str "echelon", tM m]) ((0 : Nat) : Int) = some (.str "echelon") := atI_nat rfl
    have x1 : ixD (.tup [.str "echelon", tM m]) ((1 : Nat) : Int) = some (tM m) := atI_nat rfl
    exact SB.cons (ST.set 1 (EV.ix (EV.nm 0) EV.int x0) c_is_so.nd) (SB.cons (ST.no (ET.to (ET.cm (EV.nm 1) EV.str CS.eqS) (by decide)) SB.nil) (SB.cons (ST.no (ET.to (ET.cm (EV.nm 1) EV.str CS.eqS) (by decide)) SB.nil) (SB.cons (ST.no (ET.to (ET.cm (EV.nm 1) EV.str CS.eqS) (by decide)) SB.nil) (SB.cons (ST.no (ET.to (ET.cm (EV.nm 1) EV.str CS.eqS) (by decide)) SB.nil) (SB.cons (ST.no (ET.to (ET.cm (EV.nm 1) EV.str CS.eqS) (by decide)) SB.nil) (SB.cons (ST.no (ET.to (ET.cm (EV.nm 1) EV.str CS.eqS) (by decide)) SB.nil) (SB.one (ST.ret (EV.c1 (ok_is_echelon W) (EV.ix (EV.nm 0) EV.int x1) ⟨_, rfl, rfl⟩)))))))))
open Classical in
noncomputable def goodB (d : D) : Bool := decide (CL d true)
open Classical in
theorem good_of {d : D} {b : Bool} (h : CL d b) : goodB d = b := by
  unfold goodB
  cases b with
  | true => exact decide_eq_true h
  | false => exact decide_eq_false fun h' => by cases h.inj h'
open Classical in
theorem good_no {d : D} (h : claimB d = false) : goodB d = false := decide_eq_false fun h' => by rw [h'.claim] at h; cases h
noncomputable def wrongD : D → D
  | .tup ds => optN (ds.findIdx? fun c => !goodB c)
  | _ => .int 0
def Milds (d : D) : Prop := ∀ ds, d = .tup ds → ds.length < 100000 ∧ ∀ c ∈ ds, Mild c
theorem ok_wrong_one (W : Wd g) : FN g "wrong_one" 5 (P1 fun d r => Milds d ∧ r = wrongD d) := by
  refine FN.mk1 W.t_wrong_one c_wrong_one (fun _ _ _ _ _ _ us hl => match us, hl with | [_], _ => rfl) (fun d r h => ?_)
  obtain ⟨hmd, rfl⟩ := h
  by_cases hd : d.isTup = true
  · obtain ⟨v, rfl⟩ : ∃ ds, d = .tup ds := by
      cases d <;> first | exact ⟨_, rfl⟩ | cases hd
    obtain ⟨hl, hmi⟩ := hmd v rfl
    have test : ∀ (i : Nat) (hi : i < v.length), ET (mkC g n_wrong_one s_wrong_one 4) (ifOf ((bodyOf ((defBody s_wrong_one).getD 1 (.Pass ⟨0, 0, 0, 0⟩))).getD 0 (.Pass ⟨0, 0, 0, 0⟩))) [.dat (.tup v), .dat (.int (i : Int)), .dat v[i]] [] (!goodB v[i]) [] := fun i hi => by
      have hm := hmi v[i] (List.getElem_mem hi)
      cases hc : claimB v[i] with
      | false =>
        rw [good_no hc]
        exact ET.to (EW.et (EW.or (k1 := true) (k2 := true) (ET.to (ET.not (ET.val (EV.c1 (ok_is_claim W) (EV.nm 2) ⟨hm.1, rfl⟩))) (by rw [hc]; rfl)) (fun z => nomatch z) (fun _ => rfl))) rfl
      | true =>
        obtain ⟨b, hb⟩ := claim_cl hc
        rw [good_of hb]
        exact ET.to (EW.et (EW.or (k1 := false) (ET.to (ET.not (ET.val (EV.c1 (ok_is_claim W) (EV.nm 2) ⟨hm.1, rfl⟩))) (by rw [hc]; rfl)) (fun _ => EW.or1 (ET.not (ET.val (EV.c1 (ok_is_so W) (EV.nm 2) ⟨b, hb, hm, rfl⟩)))) (fun z => nomatch z))) rfl
    have hat : ∀ i (hi : i < v.length), atN v i = .dat (.tup [.int (i : Int), v[i]]) := fun i hi => by
      unfold atN
      rw [List.getD_eq_getElem?_getD, List.getElem?_eq_getElem hi]
      rfl
    have step : ∀ (i : Nat) (hi : i < v.length), EG (mkC g n_wrong_one s_wrong_one 4) (tgOf ((defBody s_wrong_one).getD 1 (.Pass ⟨0, 0, 0, 0⟩))) (atN v i) [.dat (.tup v), .no, .no] [] [.dat (.tup v), .dat (.int (i : Int)), .dat v[i]] [] := fun i hi => by
      rw [hat i hi]
      exact EG.tup (ds := [.int (i : Int), v[i]]) (EGs.cons (EG.nm 1 c_wrong_one.nd) (EGs.cons (EG.nm 2 c_wrong_one.nd) EGs.nil))
    have isT : ST (mkC g n_wrong_one s_wrong_one 4) ((defBody s_wrong_one).getD 0 (.Pass ⟨0, 0, 0, 0⟩)) [.dat (.tup v), .no, .no] [] (.nx [.dat (.tup v), .no, .no] []) := ST.no (ET.to (ET.not (ET.val (EV.isTuple (EV.nm 0) W.b.isinstance W.b.tuple))) rfl) SB.nil
    show SB _ _ _ _ (.rt (.dat (optN (v.findIdx? fun c => !goodB c))) [])
    cases hf : v.findIdx? fun c => !goodB c with
    | none =>
      have hz : ∀ i (hi : i < v.length), (!goodB v[i]) = false := fun i hi => List.findIdx?_eq_none_iff.mp hf v[i] (List.getElem_mem hi)
      refine SB.cons isT (SB.cons (ST.for (m := v.length) (n := v.length) (E_ := fun _ => [.dat (.tup v), .no, .no]) (M_ := fun _ => []) (EI.enum (EV.nm 0) W.b.enumerate) Fg.refl rfl (Nat.le_refl _) (fun _ _ => True.intro) (fun i hi => ⟨_, _, _, step i hi, ?_, .inl (SB.one (ST.no (ET.to (test i hi) (hz i hi)) SB.nil))⟩) (.inl ⟨rfl, rfl⟩)) (SB.one (ST.ret EV.non)))
      exact Fg.cons (Fg.no (Fg.no Fg.nil))
    | some p =>
      obtain ⟨hp, h1, h2⟩ := List.findIdx?_eq_some_iff_getElem.mp hf
      have hz : ∀ i (hi : i < p), (!goodB (v[i]'(by omega))) = false := fun i hi => by
        have := h2 i hi
        simpa using this
      refine SB.cons isT (SB.stop (ST.for (m := p) (n := v.length) (E_ := fun _ => [.dat (.tup v), .no, .no]) (M_ := fun _ => []) (EI.enum (EV.nm 0) W.b.enumerate) Fg.refl rfl (Nat.le_of_lt hp) (fun _ _ => True.intro) (fun i hi => ⟨_, _, _, step i (by omega), ?_, .inl (SB.one (ST.no (ET.to (test i (by omega)) (hz i hi)) SB.nil))⟩) (.inr ⟨hp, _, _, step p hp, .inl ⟨_, _, SB.one (ST.yes (ET.to (test p hp) h1) (SB.one (ST.ret (EV.nm 1)))), rfl⟩⟩)))
      exact Fg.cons (Fg.no (Fg.no Fg.nil))
  · have hd' : d.isTup = false := by simpa using hd
    have hw : wrongD d = .int 0 := by
      cases d <;> first | rfl | cases hd'
    rw [hw]
    exact SB.stop (ST.yes (ET.to (ET.not (ET.val (EV.isTuple (EV.nm 0) W.b.isinstance W.b.tuple))) (by rw [hd']; rfl)) (SB.one (ST.ret EV.int)))
theorem ok_takes (W : Wd g) : FN g "takes" 6 (P1 fun d r => Milds d ∧ r = .bl (wrongD d).isN) := by
  refine FN.mk1 W.t_takes c_takes (fun _ _ _ _ _ _ us hl => match us, hl with | [_], _ => rfl) (fun d r h => ?_)
  obtain ⟨hm, rfl⟩ := h
  exact SB.one (ST.ret (EV.isN (EV.c1 (ok_wrong_one W) (EV.nm 0) ⟨hm, rfl⟩)))
theorem ok_first_wrong (W : Wd g) : FN g "first_wrong" 6 (P1 fun d r => Milds d ∧ r = wrongD d) := by
  refine FN.mk1 W.t_first_wrong c_first_wrong (fun _ _ _ _ _ _ us hl => match us, hl with | [_], _ => rfl) (fun d r h => ?_)
  obtain ⟨hm, rfl⟩ := h
  exact SB.one (ST.ret (EV.c1 (ok_wrong_one W) (EV.nm 0) ⟨hm, rfl⟩))
end
/-! ### what is drawn -/
section
variable {g : Pg}
abbrev rowC (ns : List Int) : Option (List O) := some ((ns.map D.int).map O.dat)
def tk (ns : List Int) (b : Int) : Int := ns.getLastD 0 % b
theorem tk_pos {ns : List Int} {b : Int} (h : 0 < b) : 0 ≤ tk ns b ∧ tk ns b < b := ⟨Int.emod_nonneg _ (by omega), Int.emod_lt_of_pos _ h⟩
def takeR : Rel := fun os M o M' => ∃ (ns : List Int) (b : Int), 0 < b ∧ os = [.adr 0, .dat (.int b)] ∧ M = [rowC ns] ∧ o = .dat (.int (tk ns b)) ∧ M' = [rowC ns.dropLast]
theorem last_at {ns : List Int} (h : ns ≠ []) : ((ns.map D.int).map O.dat)[((ns.map D.int).map O.dat).length - 1]? = some (.dat (.int (ns.getLastD 0))) := by
  rw [List.length_map, List.length_map, List.getElem?_map, List.getElem?_map]
  have : ns[ns.length - 1]? = some (ns.getLastD 0) := by
    rw [← List.getLast?_eq_getElem?, List.getLast?_eq_some_getLast h, List.getLastD_eq_getLast?, List.getLast?_eq_some_getLast h]
    rfl
  rw [this]
  rfl
theorem ok_law_take (W : Wd g) : FN g "_law_take" 1 takeR := by
  refine FN.mk W.t_law_take c_law_take (fun _ _ _ _ _ _ us hl => match us, hl with | [_, _], _ => rfl) (fun os M o M' h => by obtain ⟨ns, b, _, rfl, _⟩ := h; rfl) (fun os M o M' h => ?_)
  obtain ⟨ns, b, hb, rfl, rfl, rfl, rfl⟩ := h
  have hl : ((ns.map D.int).map O.dat).length = ns.length := by rw [List.length_map, List.length_map]
  refine SB.guard (ET.cm (EV.lenC (EV.nm 0) rfl W.b.len) EV.int CS.eqI) (fun z => ?_) (fun z => ?_)
  · rw [hl] at z
    have e : ns = [] := List.eq_nil_of_length_eq_zero (by have := of_decide_eq_true z; omega)
    subst e
    exact SB.one (ST.ret (EV.to EV.int rfl))
  · rw [hl] at z
    have e : ns ≠ [] := fun e => by
      subst e
      exact absurd z (by decide)
    refine SB.one (ST.to (ST.ret (EV.mod (EV.intI (EV.pop (EV.nm 0) rfl (last_at e)) W.b.int) (EV.nm 1) hb)) ?_)
    show Out.rt _ [some (((ns.map D.int).map O.dat).dropLast)] = _
    rw [← List.map_dropLast, ← List.map_dropLast]
    rfl
theorem ev_tk {C : Cc} {E : List O} {M M1 M2 M' : Mem} {a b : Expr} {p pos : Pos} {n : Nat} {ns : List Int} {j : Int} (F : FN C.g "_law_take" 1 takeR) (ha : EV C a E M (.adr n) M1) (hb : EV C b E M1 (.dat (.int j)) M2) (hc : M2[n]? = some (rowC ns)) (hj : 0 < j) (hk : Nat.ble 1 C.k = true := by rfl)
    (hg : C.sc.names.lookup ("_law_take" : Str) = some .globalImplicit := by rfl) (he : ∀ env, starEach [a, b] env = (false, eval a env) :: starEach [b] env := by intro _; rfl) (he2 : ∀ env, starEach [b] env = (false, eval b env) :: starEach [] env := by intro _; rfl) (hpl : ∀ env, (backTo pos (starEach [b] env)).any (·.1) = false := by intro _; rfl) (hM : M' = M2.set n (rowC ns.dropLast) := by rfl) :
    EV C (.Call (.Name "_law_take" p) [a, b] [] pos) E M (.dat (.int (tk ns j))) M' := by
  subst hM
  exact EV.call1 (ds := [.int j]) (cs := ns.map D.int) (cs' := ns.dropLast.map D.int) F (EA.cons ha (EA.cons hb EA.nil he2) he) hc ⟨ns, j, hj, rfl, rfl, rfl, rfl⟩ hk hg (by decide) he hpl
/-! ### alike -/
def Fit : Nat → D → Prop
  | _, .non => True
  | _, .bl _ => True
  | _, .int _ => True
  | _, .str _ => True
  | n + 1, .tup ds => ds.length < 100000 ∧ ∀ x ∈ ds, Fit n x
  | n + 1, .lst ds => ds.length < 100000 ∧ ∀ x ∈ ds, Fit n x
  | _, _ => False
theorem like_flat {kk : Nat} (W : Wd g) {e : D} (hf : Fit 0 e) : SB (mkC g n_law_like s_law_like kk) (defBody s_law_like) (pad n_law_like [.dat e, .dat e]) [] (.rt (.dat (.bl true)) []) := by
  cases e with
  | bl k => exact SB.stop (ST.yes (ET.to (ET.val (EV.isBool (EV.nm 1) W.b.isinstance W.b.bool)) rfl) (SB.one (ST.ret (EV.to (EV.and (EV.isBool (EV.nm 0) W.b.isinstance W.b.bool) (fun _ => EV.and1 (EV.cm (EV.nm 0) (EV.nm 1) CS.eqB)) (fun _ => rfl)) (by cases k <;> rfl)))))
  | int i =>
    exact SB.cons (ST.no (ET.to (ET.val (EV.isBool (EV.nm 1) W.b.isinstance W.b.bool)) rfl) SB.nil) (SB.stop (ST.yes (ET.to (ET.val (EV.isInt (EV.nm 1) W.b.isinstance W.b.int)) rfl) (SB.one (ST.ret (EV.to (EV.and (EV.isInt (EV.nm 0) W.b.isinstance W.b.int) (fun _ => EV.and (EV.not (EV.isBool (EV.nm 0) W.b.isinstance W.b.bool)) (fun _ => EV.and1 (EV.cm (EV.nm 0) (EV.nm 1) CS.eqI)) (fun _ => rfl)) (fun _ => rfl)) (by simp [D.isInt, D.isBl]))))))
  | str x =>
    exact SB.cons (ST.no (ET.to (ET.val (EV.isBool (EV.nm 1) W.b.isinstance W.b.bool)) rfl) SB.nil) (SB.cons (ST.no (ET.to (ET.val (EV.isInt (EV.nm 1) W.b.isinstance W.b.int)) rfl) SB.nil) (SB.stop (ST.yes (ET.to (ET.val (EV.isStr (EV.nm 1) W.b.isinstance W.b.str)) rfl) (SB.one (ST.ret (EV.to (EV.and (EV.isStr (EV.nm 0) W.b.isinstance W.b.str) (fun _ => EV.and1 (EV.cm (EV.nm 0) (EV.nm 1) CS.eqS)) (fun _ => rfl)) (by simp [D.isStr])))))))
  | non =>
    exact SB.cons (ST.no (ET.to (ET.val (EV.isBool (EV.nm 1) W.b.isinstance W.b.bool)) rfl) SB.nil) (SB.cons (ST.no (ET.to (ET.val (EV.isInt (EV.nm 1) W.b.isinstance W.b.int)) rfl) SB.nil) (SB.cons (ST.no (ET.to (ET.val (EV.isStr (EV.nm 1) W.b.isinstance W.b.str)) rfl) SB.nil) (SB.stop (ST.yes (ET.to (ET.isN (EV.nm 1)) rfl) (SB.one (ST.ret (EV.to (EV.isN (EV.nm 0)) rfl)))))))
  | tup ds => exact hf.elim
  | lst ds => exact hf.elim
  | dct ks ds => exact hf.elim
theorem ok_law_like (W : Wd g) : ∀ n : Nat, FN g "_law_like" (n + 1) (P2 fun d e r => e = d ∧ Fit n d ∧ r = .bl true) := fun n => by
  induction n with
  | zero =>
    refine FN.mk2 W.t_law_like c_law_like (fun _ _ _ _ _ _ us hl => match us, hl with | [_, _], _ => rfl) (fun d e r h => ?_)
    obtain ⟨rfl, hf, rfl⟩ := h
    exact like_flat W hf
  | succ n ih =>
    refine FN.mk2 W.t_law_like c_law_like (fun _ _ _ _ _ _ us hl => match us, hl with | [_, _], _ => rfl) (fun d e r h => ?_)
    obtain ⟨rfl, hf, rfl⟩ := h
    have loop : ∀ {ds : List D}, seqD e = some ds → ds.length < 100000 → (∀ x ∈ ds, Fit n x) → SB (mkC g n_law_like s_law_like (n + 1)) ((defBody s_law_like).drop 6) (pad n_law_like [.dat e, .dat e]) [] (.rt (.dat (.bl true)) []) := fun {ds} hs hl hx => by
      have hlen := (seq_of hs).2
      refine SB.cons (ST.no (ET.to (ET.cm (EV.len (EV.nm 0) hlen W.b.len) (EV.len (EV.nm 1) hlen W.b.len) CS.neI) (by simp)) SB.nil) (SB.cons (ST.forN 2 (E_ := fun _ => [.dat e, .dat e, .no]) (M_ := fun _ => []) (EI.rng1 (EV.len (EV.nm 1) hlen W.b.len) W.b.range (by omega)) Fg.refl rfl (fun _ _ => True.intro) c_law_like.nd (fun i hi => ?_)) (SB.one (ST.ret EV.bl)))
      have hi' : i < ds.length := by omega
      have hix : ixD e ((i : Nat) : Int) = some ds[i] := by
        cases e <;> first | (cases hs; exact atI_nat (List.getElem?_eq_getElem hi')) | cases hs
      refine ⟨[.dat e, .dat e, .dat (.int (i : Int))], Fg.cons (Fg.cons (Fg.no Fg.nil)), ?_⟩
      have hset : ([.dat e, .dat e, .no] : List O).set 2 (atI0 0 i) = [.dat e, .dat e, .dat (.int (i : Int))] := by
        show [O.dat e, O.dat e, O.dat (.int (0 + (i : Int)))] = _
        rw [Int.zero_add]
      rw [hset]
      exact SB.one (ST.no (ET.to (ET.not (ET.val (EV.c2 ih (EV.ix (EV.nm 0) (EV.nm 2) hix) (EV.ix (EV.nm 1) (EV.nm 2) hix) ⟨rfl, hx _ (List.getElem_mem hi'), rfl⟩ (Nat.ble_eq_true_of_le (Nat.le_refl _))))) rfl) SB.nil)
    cases e with
    | tup ds =>
      exact SB.cons (ST.no (ET.to (ET.val (EV.isBool (EV.nm 1) W.b.isinstance W.b.bool)) rfl) SB.nil) (SB.cons (ST.no (ET.to (ET.val (EV.isInt (EV.nm 1) W.b.isinstance W.b.int)) rfl) SB.nil) (SB.cons (ST.no (ET.to (ET.val (EV.isStr (EV.nm 1) W.b.isinstance W.b.str)) rfl) SB.nil) (SB.cons (ST.no (ET.to (ET.isN (EV.nm 1)) rfl) SB.nil)
        (SB.cons (ST.no (ET.to (EW.et (EW.and (ET.val (EV.isTuple (EV.nm 1) W.b.isinstance W.b.tuple)) (fun _ => EW.and1 (ET.not (ET.val (EV.isTuple (EV.nm 0) W.b.isinstance W.b.tuple)))) (fun _ => rfl))) rfl) SB.nil)
        (SB.cons (ST.no (ET.to (EW.et (EW.and (k1 := false) (k2 := true) (ET.to (ET.val (EV.isList (EV.nm 1) W.b.isinstance W.b.list)) rfl) (fun z => nomatch z) (fun _ => rfl))) rfl) SB.nil) (loop rfl hf.1 hf.2))))))
    | lst ds =>
      exact SB.cons (ST.no (ET.to (ET.val (EV.isBool (EV.nm 1) W.b.isinstance W.b.bool)) rfl) SB.nil) (SB.cons (ST.no (ET.to (ET.val (EV.isInt (EV.nm 1) W.b.isinstance W.b.int)) rfl) SB.nil) (SB.cons (ST.no (ET.to (ET.val (EV.isStr (EV.nm 1) W.b.isinstance W.b.str)) rfl) SB.nil) (SB.cons (ST.no (ET.to (ET.isN (EV.nm 1)) rfl) SB.nil)
        (SB.cons (ST.no (ET.to (EW.et (EW.and (k1 := false) (k2 := true) (ET.to (ET.val (EV.isTuple (EV.nm 1) W.b.isinstance W.b.tuple)) rfl) (fun z => nomatch z) (fun _ => rfl))) rfl) SB.nil)
        (SB.cons (ST.no (ET.to (EW.et (EW.and (ET.val (EV.isList (EV.nm 1) W.b.isinstance W.b.list)) (fun _ => EW.and1 (ET.not (ET.val (EV.isList (EV.nm 0) W.b.isinstance W.b.list)))) (fun _ => rfl))) rfl) SB.nil) (loop rfl hf.1 hf.2))))))
    | bl k => exact like_flat W True.intro
    | int i => exact like_flat W True.intro
    | str x => exact like_flat W True.intro
    | non => exact like_flat W True.intro
    | dct ks ds => exact hf.elim
end
/-! ### what a def does, told by its run -/
section
variable {g : Pg}
def Run (g : Pg) (N : List Str) (st : Stmt) (k : Nat) (os : List O) (M : Mem) (o : O) (M' : Mem) : Prop := M.length ≤ M'.length ∧ LowO M'.length o ∧ LowM M'.length M' ∧ ∃ J, SB (mkC g N st k) (defBody st) (pad N os) M (.rt o (M' ++ J))
theorem FN.run {x : Str} {st : Stmt} {N ps : List Str} {k : Nat} (T : TxtF g x st) (S : FnScope N ps (defScope st))
    (hb : ∀ (kV doc pm : Value) (an : Option Addr) (cdv ct : Value) (us : List Value), us.length = ps.length → bindArgs (PySem.W.fnOf x x (defArgs st) (defBody st) (defScope st) .none kV doc pm an cdv ct) ⟨us, []⟩ = pure (ps.zip us)) :
    FN g x (k + 1) (fun os M o M' => os.length = ps.length ∧ Run g N st k os M o M') :=
  FN.mkJ T S hb (fun os M o M' h => h.1) (fun os M o M' h => ⟨h.2.1, h.2.2.1, h.2.2.2.1, h.2.2.2.2⟩)
end
section
variable {g : Pg}
section
variable {C : Cc} {E : List O} {M M1 : Mem} {elt iter : Expr} {p : Pos} {x : Str} {scope : Scope} {own : List (Str × Nat)} {d : D}
theorem LC.lX {α : Type} (jx : Nat) {xs : List α} {f : α → D} (A : Nat → Mem) (acc : Nat → List O) (ok : blkC C.N C.sc scope own = true) (nd : C.N.Nodup) (ho : own.map (·.2) = [jx]) (h : EV C iter E M (.dat d) M1) (hd : seqD d = some (xs.map f)) (hA : A 0 = M1 ++ [some []]) (ha : acc 0 = [])
    (step : ∀ (i : Nat) (hi : i < xs.length), ∃ o Mc, EV (C.blk scope) elt ((wipeE E [jx]).set jx (.dat (f xs[i]))) (A i) o Mc ∧ Mc[M1.length]? = some (some (acc i)) ∧ (acc i).length < 100000 ∧ A (i + 1) = Mc.set M1.length (some (acc i ++ [o])) ∧ acc (i + 1) = acc i ++ [o])
    (hi : C.N[jx]? = some x := by rfl) (hx : Loc (C.blk scope).sc x := by first | exact Or.inl rfl | exact Or.inr rfl) (hf' : (C.blk scope).fn x = true ∨ (C.blk scope).sc.names.lookup x = some .local := by first | exact .inl rfl | exact .inr rfl)
    (hf : ∀ env x, foldedSetIterable iter env x = pure x := by intro _ _; rfl) : LC C elt (.Name x p) iter [] scope own E M (.adr M1.length) (A xs.length) := by
  have hlen : (xs.map f).length = xs.length := List.length_map _
  have key := LC.gen (C := C) (tg := .Name x p) (elt := elt) (iter := iter) (ifs := []) (scope := scope) (own := own) (A := A) (acc := acc) ok nd (EI.seq h hd) hA ha (fun _ _ => True.intro) (fun i hi' => by
    rw [hlen] at hi'
    obtain ⟨o, Mc, h1, h2, h3, h4, h5⟩ := step i hi'
    refine ⟨_, _, true, _, EGv.nm jx nd (by rw [ho]; simp) hi hx hf', EP.nil, .inl ⟨rfl, o, Mc, ?_, h2, h3, h4, h5⟩⟩
    rw [ho, atO_map hi']
    exact h1) hf
  rw [hlen] at key
  exact key
end
theorem rowC_app {v : List Int} {x : Int} : rowC (v ++ [x]) = some ((v.map D.int).map O.dat ++ [O.dat (D.int x)]) := by
  show some _ = some _
  rw [List.map_append, List.map_append]
  rfl
end
/-! ### rows of numbers -/
section
variable {g : Pg}
def dl : Nat → List Int → List Int
  | 0, ns => ns
  | i + 1, ns => (dl i ns).dropLast
def pick (L : List Int) (i : Int) : Int := L.getD i.toNat 0
theorem pick_at {L : List Int} {i : Int} (h : 0 ≤ i ∧ i < L.length) : atI (L.map D.int) i = some (.int (pick L i)) := by
  obtain ⟨n, rfl⟩ : ∃ n : Nat, i = (n : Int) := ⟨i.toNat, by omega⟩
  refine atI_nat ?_
  rw [List.getElem?_map]
  have hn : n < L.length := by omega
  show _ = some (D.int (L.getD n 0))
  rw [getD_of_lt hn]
  rfl
theorem pick_mem {L : List Int} {i : Int} (h : 0 ≤ i ∧ i < L.length) : pick L i ∈ L := mem_getD (by omega)
theorem ixN_of {n k : Nat} (h : k < n) : ixN n (k : Int) = some k := by
  unfold ixN
  rw [if_pos (by omega), if_pos (by omega)]
  simp
theorem lowR {n : Nat} {ns : List Int} : LowM n [rowC ns] := LowM.dat LowM.nil
theorem EV.call1' {C : Cc} {E : List O} {M M1 M' : Mem} {e : Expr} {es : List Expr} {p pos : Pos} {x : Str} {d : D} {R : Rel} {kf n : Nat} {ds cs cs' : List D} (F : FN C.g x kf R) (ha : EA C (e :: es) E M (.adr n :: ds.map .dat) M1) (hc : M1[n]? = some (some (cs.map .dat))) (hR : R (.adr 0 :: ds.map .dat) [some (cs.map .dat)] (.dat d) [some (cs'.map .dat)]) (hk : Nat.ble kf C.k = true := by rfl)
    (hg : C.sc.names.lookup x = some .globalImplicit := by rfl) (hdb : (x == ("__debug__" : Str)) = false := by decide) (he : ∀ env, starEach (e :: es) env = (false, eval e env) :: starEach es env := by intro _; rfl) (hpl : ∀ env, (backTo pos (starEach es env)).any (·.1) = false := by intro _; rfl) (hM : M' = M1.set n (some (cs'.map .dat)) := by rfl) :
    EV C (.Call (.Name x p) (e :: es) [] pos) E M (.dat d) M' := by
  subst hM
  exact EV.call1 F ha hc hR hk hg hdb he hpl
theorem row_set {v : List Int} {j : Nat} {x : Int} : (some (((v.map D.int).map O.dat).set j (.dat (.int x))) : Option (List O)) = rowC (v.set j x) := by
  show _ = some _
  rw [List.map_set, List.map_set]
theorem adr_len {n b : Nat} : ((List.range n).map fun i => O.adr (b + i)).length = n := by rw [List.length_map, List.length_range]
theorem row_len {v : List Int} : ((v.map D.int).map O.dat).length = v.length := by rw [List.length_map, List.length_map]
theorem adr_at {n b i : Nat} (h : i < n) : atI ((List.range n).map fun k => O.adr (b + k)) ((i : Nat) : Int) = some (.adr (b + i)) := by
  refine atI_nat ?_
  rw [List.getElem?_map, List.getElem?_range h]
  rfl
theorem row_at {v : List Int} {j : Nat} (h : j < v.length) : atI ((v.map D.int).map O.dat) ((j : Nat) : Int) = some (.dat (.int (v.getD j 0))) := by
  refine atI_nat ?_
  rw [List.getElem?_map, List.getElem?_map, getD_of_lt h]
  rfl
end
section
variable {g : Pg}
theorem isV_ix {e : D} {r : List Int} {j : Nat} (h : seqD e = some (r.map D.int)) (hj : j < r.length) : ixD e ((j : Nat) : Int) = some (.int (r.getD j 0)) := by
  have : (r.map D.int)[j]? = some (.int (r.getD j 0)) := by
    rw [List.getElem?_map, getD_of_lt hj]
    rfl
  cases e <;> first | (cases h; exact atI_nat this) | cases h
theorem mixDraws {res : List Int} : Mix [] [] [] [none, rowC res] [none, rowC res] := by
  refine ⟨rfl, List.nodup_nil, rfl, fun i k h => by simp at h, fun k os h => ?_⟩
  match k, h with
  | 1, h =>
    have e : ((res.map D.int).map O.dat) = os := Option.some.inj (Option.some.inj h)
    subst e
    exact .inr ⟨1, _, rfl, .inr (Nat.zero_le _), rfl, (ren_dat _).symm⟩
  | k + 2, h => simp at h
end
/-! ### draws -/
section
variable {g : Pg}
theorem chain {S : Type} {P : Nat → S → S → Prop} {I : Nat → S → Prop} {n : Nat} (h : ∀ i, i < n → ∀ s, I i s → ∃ s', P i s s' ∧ I (i + 1) s') (s0 : S) (h0 : I 0 s0) : ∃ f : Nat → S, f 0 = s0 ∧ (∀ i, i ≤ n → I i (f i)) ∧ ∀ i, i < n → P i (f i) (f (i + 1)) := by
  induction n with
  | zero => exact ⟨fun _ => s0, rfl, fun i hi => by rw [Nat.le_zero.mp hi]; exact h0, fun i hi => absurd hi (Nat.not_lt_zero i)⟩
  | succ n ih =>
    obtain ⟨f, f0, f1, f2⟩ := ih fun i hi => h i (by omega)
    obtain ⟨s', p1, p2⟩ := h n (Nat.lt_succ_self n) (f n) (f1 n (Nat.le_refl n))
    refine ⟨fun i => if i ≤ n then f i else s', by show (if 0 ≤ n then f 0 else s') = s0; rw [if_pos (Nat.zero_le _)]; exact f0, fun i hi => ?_, fun i hi => ?_⟩
    · by_cases hin : i ≤ n
      · simp only [if_pos hin]
        exact f1 i hin
      · have : i = n + 1 := by omega
        subst this
        simp only [if_neg hin]
        exact p2
    · by_cases hin : i < n
      · simp only [if_pos (show i ≤ n by omega), if_pos (show i + 1 ≤ n by omega)]
        exact f2 i hin
      · have : i = n := by omega
        subst this
        simp only [if_pos (Nat.le_refl i), if_neg (show ¬ i + 1 ≤ i by omega)]
        exact p1
def dig (t : List Int) (n : Int) : Nat → List Int × Int
  | 0 => (t, n)
  | k + 1 => ((dig t n k).1 ++ [(dig t n k).2 % 1000], (dig t n k).2 / 1000)
theorem dig_len {t : List Int} {n : Int} : ∀ k, (dig t n k).1.length = t.length + k
  | 0 => rfl
  | k + 1 => by
    show ((dig t n k).1 ++ [_]).length = _
    rw [List.length_append, dig_len k, List.length_singleton]
    omega
theorem cutD_map {α β : Type} {f : α → β} {xs : List α} {lo hi : Option Int} : cutD (xs.map f) lo hi = (cutD xs lo hi).map f := by
  unfold cutD
  rw [List.length_map, List.map_take, List.map_drop]
theorem cut63 {α : Type} {xs : List α} (h : xs.length ≤ 63) : cutD xs none (some 63) = xs := by
  refine cutD_all rfl ?_
  show HT.sIx xs.length xs.length (some ((63 : Nat) : Int)) = _
  rw [HT.sIx_nat]
  omega
abbrev db : List Stmt := defBody s_law_draws
theorem draws_run (W : Wd g) {o0 : O} {ns : List Int} (hs : Scr g.K o0 (ns.map V.int)) (hn : o0 ≠ .no) (hl : ns.length ≤ 63) : ∃ res : List Int, SB (mkC g n_law_draws s_law_draws 0) db (pad n_law_draws [o0, .dat (.int 520)]) [] (.rt (.adr 1) [none, rowC res]) := by
  have hcut : cutD (ns.map D.int) none (some 63) = ns.map D.int := cut63 (by rw [List.length_map]; exact hl)
  have hnl : (ns.map D.int).length = ns.length := List.length_map _
  have slice : ∀ {E : List O} {M : Mem} {p p1 p2 q : Pos} {j : Nat}, E[0]? = some o0 → EV (mkC g n_law_draws s_law_draws 0) (.Subscript (.Name "script" p1) (.Slice none (some (.Constant (.int 63) j q)) none p2) p) E M (.dat (.lst (ns.map D.int))) M := fun {E M p p1 p2 q j} he => by
    have := EV.slS (C := mkC g n_law_draws s_law_draws 0) (pos := p) (p := p2) (EV.nm (M := M) (x := "script") (pos := p1) 0 rfl he hn) EO.none (EO.some (EV.int (pos := q) (j := j) (i := 63))) hs
    rw [hcut] at this
    exact this
  -- the first loop
  let E1 : List O := [o0, .dat (.int 520), .adr 0, .no, .no, .no, .no]
  obtain ⟨f, f0, fI, fP⟩ := chain (S := List Int) (n := ns.length) (I := fun i t => t.length ≤ 60 * i)
    (P := fun i t t' => ∃ E2, Fg E2 E1 ∧ SB (mkC g n_law_draws s_law_draws 0) (bodyOf (db.getD 1 (.Pass ⟨0, 0, 0, 0⟩))) (E1.set 3 (.dat (.int (ns.getD i 0)))) [rowC t] (.nx E2 [rowC t'])) (fun i hi t ht => by
      generalize ns.getD i 0 = z
      by_cases hz : 10 ^ 18 ≤ z
      · -- digits
        have hbr : ∃ m, m ≤ 60 ∧ (∀ k, k < m → ¬ ((dig t z k).2 = 0 ∨ 520 ≤ (dig t z k).1.length)) ∧ (m < 60 → ((dig t z m).2 = 0 ∨ 520 ≤ (dig t z m).1.length)) := by
          by_cases hex : ∃ m, m < 60 ∧ ((dig t z m).2 = 0 ∨ 520 ≤ (dig t z m).1.length)
          · obtain ⟨m, h1, h2⟩ := hex
            obtain ⟨k, k1, k2, k3⟩ := least (P := fun m => (dig t z m).2 = 0 ∨ 520 ≤ (dig t z m).1.length) m h2
            exact ⟨k, by omega, k3, fun _ => k2⟩
          · exact ⟨60, Nat.le_refl _, fun k hk h => hex ⟨k, hk, h⟩, fun h => absurd h (by omega)⟩
        obtain ⟨m, m1, m2, m3⟩ := hbr
        have hd := fun k => dig_len (t := t) (n := z) k
        have test : ∀ {k : Nat} {E : List O} {b : Bool}, E = [o0, .dat (.int 520), .adr 0, .dat (.int z), .dat (.int (dig t z k).2), .dat (.int (0 + (k : Int))), .no] → b = decide ((dig t z k).2 = 0 ∨ 520 ≤ (dig t z k).1.length) → ET (mkC g n_law_draws s_law_draws 0) (ifOf ((bodyOf ((thenOf ((bodyOf (db.getD 1 (.Pass ⟨0, 0, 0, 0⟩))).getD 1 (.Pass ⟨0, 0, 0, 0⟩))).getD 0 (.Pass ⟨0, 0, 0, 0⟩))).getD 0 (.Pass ⟨0, 0, 0, 0⟩))) E [rowC (dig t z k).1] b [rowC (dig t z k).1] := fun {k E b} he hb => by
          subst he
          refine ET.to (EW.et (EW.or (ET.cm (EV.nm 4) EV.int CS.eqI) (fun _ => EW.or1 (ET.cm (EV.lenC (nn := 0) (EV.nm 2) rfl W.b.len) (EV.nm 1) CS.geI)) (fun _ => rfl))) ?_
          rw [hb, row_len, Bool.eq_iff_iff]
          simp
          omega
        refine ⟨(dig t z m).1, ⟨[o0, .dat (.int 520), .adr 0, .dat (.int z), .no, .no, .no], ?_, SB.cons (ST.set 4 (EV.intI (EV.nm 3) W.b.int) c_law_draws.nd) (SB.one (ST.yes (ET.to (ET.cm (EV.nm 4) (EV.pow EV.int EV.int ⟨by decide, by decide, by decide⟩) CS.geI) (decide_eq_true hz)) (SB.one ?_)))⟩, ?_⟩
        · exact Fg.cons (Fg.cons (Fg.cons (Fg.no (Fg.refl))))
        · have base : ∀ {r : Out}, (m = 60 ∧ r = .nx [o0, .dat (.int 520), .adr 0, .dat (.int z), .dat (.int (dig t z 60).2), .no, .no] [rowC (dig t z 60).1] ∨ m < 60 ∧ r = .nx [o0, .dat (.int 520), .adr 0, .dat (.int z), .dat (.int (dig t z m).2), .dat (.int (0 + (m : Int))), .no] [rowC (dig t z m).1]) → ST (mkC g n_law_draws s_law_draws 0) ((thenOf ((bodyOf (db.getD 1 (.Pass ⟨0, 0, 0, 0⟩))).getD 1 (.Pass ⟨0, 0, 0, 0⟩))).getD 0 (.Pass ⟨0, 0, 0, 0⟩)) [o0, .dat (.int 520), .adr 0, .dat (.int z), .dat (.int z), .no, .no] [rowC t] r := fun {r} hr => by
            refine ST.for (m := m) (n := 60) (E_ := fun k => [o0, .dat (.int 520), .adr 0, .dat (.int z), .dat (.int (dig t z k).2), .no, .no]) (M_ := fun k => [rowC (dig t z k).1]) (EI.rng1 EV.int W.b.range (by decide)) Fg.refl rfl m1 (fun _ _ => True.intro) (fun k hk => ?_) ?_
            · refine ⟨_, _, [o0, .dat (.int 520), .adr 0, .dat (.int z), .dat (.int (dig t z (k + 1)).2), .dat (.int (0 + (k : Int))), .no], EG.nm 5 c_law_draws.nd, ?_, .inl ?_⟩
              · exact Fg.cons (Fg.cons (Fg.cons (Fg.cons (Fg.cons (Fg.no Fg.refl)))))
              · refine SB.cons (ST.no (test (b := false) rfl (decide_eq_false (m2 k hk)).symm) SB.nil) (SB.cons (E1 := [o0, .dat (.int 520), .adr 0, .dat (.int z), .dat (.int (dig t z k).2), .dat (.int (0 + (k : Int))), .no]) (M1 := [rowC ((dig t z k).1 ++ [(dig t z k).2 % 1000])]) (ST.to (ST.exp (EV.append (n := 0) (ps := ((dig t z k).1.map D.int).map O.dat) (EV.nm 2) (EV.mod (EV.intI (EV.nm 4) W.b.int) EV.int (by decide)) rfl rfl (by rw [row_len, hd]; omega))) ?_) (SB.one (ST.set 4 (EV.to (EV.div (EV.nm 4) EV.int ⟨by decide, by decide⟩) rfl) c_law_draws.nd)))
                show Out.nx _ [some _] = Out.nx _ [rowC ((dig t z k).1 ++ [(dig t z k).2 % 1000])]
                rw [rowC_app]
                rfl
            · rcases hr with ⟨rfl, rfl⟩ | ⟨h60, rfl⟩
              · exact .inl ⟨rfl, rfl⟩
              · exact .inr ⟨h60, _, _, EG.nm 5 c_law_draws.nd, .inr ⟨_, _, SB.stop (ST.yes (test (b := true) rfl (decide_eq_true (m3 h60)).symm) (SB.one ST.brk)), rfl⟩⟩
          by_cases h60 : m < 60
          · refine ST.forget (base (.inr ⟨h60, rfl⟩)) ?_
            exact Fg.cons (Fg.cons (Fg.cons (Fg.cons (Fg.no (Fg.no Fg.refl)))))
          · have e : m = 60 := by omega
            subst e
            refine ST.forget (base (.inl ⟨rfl, rfl⟩)) ?_
            exact Fg.cons (Fg.cons (Fg.cons (Fg.cons (Fg.no Fg.refl))))
        · rw [hd]; omega
      · refine ⟨t, ⟨_, ?_, SB.cons (ST.set 4 (EV.intI (EV.nm 3) W.b.int) c_law_draws.nd) (SB.one (ST.no (ET.to (ET.cm (EV.nm 4) (EV.pow EV.int EV.int ⟨by decide, by decide, by decide⟩) CS.geI) (decide_eq_false hz)) SB.nil))⟩, by omega⟩
        exact Fg.cons (Fg.cons (Fg.cons (Fg.no (Fg.no Fg.refl))))) [] (by simp)
  -- the second one
  let E2 : Int → List O := fun s => [o0, .dat (.int 520), .adr 0, .no, .no, .no, .dat (.int s)]
  obtain ⟨u, u0, uI, uP⟩ := chain (S := Int) (n := ns.length) (I := fun i s => 0 ≤ s ∧ s < 2147483647)
    (P := fun i s s' => ∃ E', Fg E' (E2 s') ∧ SB (mkC g n_law_draws s_law_draws 0) (bodyOf (db.getD 3 (.Pass ⟨0, 0, 0, 0⟩))) ((E2 s).set 5 (.dat (.int (0 + (i : Int))))) [rowC (f ns.length)] (.nx E' [rowC (f ns.length)])) (fun i hi s hs' => by
      refine ⟨(s * s + ns.getD i 0 % 999999937 + (i : Int) + 1) % 2147483647, ⟨_, ?_, SB.one (ST.set 6 (EV.mod (EV.add (EV.add (EV.add (EV.mul (EV.nm 6) (EV.nm 6) (mul_okL (by omega))) (EV.mod (EV.intI (EV.ixS (EV.nm 0 rfl rfl hn) (EV.nm 5) hs (by rw [Int.zero_add]; exact isV_ix (e := .lst (ns.map D.int)) rfl hi)) W.b.int) EV.int (by decide))) (EV.nm 5)) EV.int) EV.int (by decide)) c_law_draws.nd)⟩, Int.emod_nonneg _ (by decide), Int.emod_lt_of_pos _ (by decide)⟩
      rw [Int.zero_add]
      exact Fg.cons (Fg.cons (Fg.cons (Fg.cons (Fg.cons (Fg.no Fg.refl)))))) 40503 (by decide)
  -- the third one
  let E3 : Int × List Int → List O := fun s => [o0, .dat (.int 520), .adr 0, .no, .no, .no, .dat (.int s.1)]
  obtain ⟨v, v0, vI, vP⟩ := chain (S := Int × List Int) (n := 523) (I := fun i s => (0 ≤ s.1 ∧ s.1 < 2147483647) ∧ s.2.length ≤ 3780 + i)
    (P := fun i s s' => ∃ E', Fg E' (E3 s') ∧ SB (mkC g n_law_draws s_law_draws 0) (bodyOf (db.getD 4 (.Pass ⟨0, 0, 0, 0⟩))) ((E3 s).set 5 (.dat (.int (0 + (i : Int))))) [rowC s.2] (.nx E' [rowC s'.2])) (fun i hi s hs' => by
      obtain ⟨s, t⟩ := s
      obtain ⟨hs1, hs2⟩ := hs'
      simp only at hs1 hs2
      have hp : 0 ≤ (s * s + 5 * (0 + (i : Int)) + 3) % 2147483647 ∧ (s * s + 5 * (0 + (i : Int)) + 3) % 2147483647 < 2147483647 := ⟨Int.emod_nonneg _ (by decide), Int.emod_lt_of_pos _ (by decide)⟩
      have st : ∀ {r : Out} {rest : List Stmt}, SB (mkC g n_law_draws s_law_draws 0) ((bodyOf (db.getD 4 (.Pass ⟨0, 0, 0, 0⟩))).drop 1) [o0, .dat (.int 520), .adr 0, .no, .no, .dat (.int (0 + (i : Int))), .dat (.int ((s * s + 5 * (0 + (i : Int)) + 3) % 2147483647))] [rowC t] r → SB (mkC g n_law_draws s_law_draws 0) (bodyOf (db.getD 4 (.Pass ⟨0, 0, 0, 0⟩))) ((E3 (s, t)).set 5 (.dat (.int (0 + (i : Int))))) [rowC t] r := fun {r rest} h =>
        SB.cons (ST.set 6 (EV.mod (EV.add (EV.add (EV.mul (EV.nm 6) (EV.nm 6) (mul_okL (by omega))) (EV.mulL EV.int (EV.nm 5) (by decide))) EV.int) EV.int (by decide)) c_law_draws.nd) h
      by_cases h2 : (2 : Int) < 0 + (i : Int)
      · refine ⟨((s * s + 5 * (0 + (i : Int)) + 3) % 2147483647, t ++ [(s * s + 5 * (0 + (i : Int)) + 3) % 2147483647 / 64 % 1000]), ⟨[o0, .dat (.int 520), .adr 0, .no, .no, .dat (.int (0 + (i : Int))), .dat (.int ((s * s + 5 * (0 + (i : Int)) + 3) % 2147483647))], ?_, st (rest := []) (SB.one (ST.yes (ET.to (ET.cm (EV.nm 5) EV.int CS.gtI) (decide_eq_true h2)) (SB.one (ST.to (ST.exp (EV.append (n := 0) (ps := (t.map D.int).map O.dat) (EV.nm 2) (EV.mod (EV.div (EV.nm 6) EV.int ⟨by decide, by decide⟩) EV.int (by decide)) rfl rfl (by rw [row_len]; omega))) ?_))))⟩, hp, ?_⟩
        · exact Fg.cons (Fg.cons (Fg.cons (Fg.cons (Fg.cons (Fg.no Fg.refl)))))
        · show Out.nx _ [some _] = Out.nx _ [rowC (t ++ [_])]
          rw [rowC_app]
        · show (t ++ [_]).length ≤ _
          rw [List.length_append, List.length_singleton]
          omega
      · refine ⟨((s * s + 5 * (0 + (i : Int)) + 3) % 2147483647, t), ⟨_, ?_, st (rest := []) (SB.one (ST.no (ET.to (ET.cm (EV.nm 5) EV.int CS.gtI) (decide_eq_false h2)) SB.nil))⟩, hp, ?_⟩
        · exact Fg.cons (Fg.cons (Fg.cons (Fg.cons (Fg.cons (Fg.no Fg.refl)))))
        · show t.length ≤ _
          omega) (u ns.length, f ns.length) ⟨uI _ (Nat.le_refl _), by
      have := fI ns.length (Nat.le_refl _)
      show (f ns.length).length ≤ 3780 + 0
      omega⟩
  refine ⟨(cutD (v 523).2 none (some 520)).reverse, SB.cons (ST.set 2 (EV.cel EA.nil (by decide)) c_law_draws.nd) (SB.cons (ST.forN 3 (E_ := fun _ => E1) (M_ := fun i => [rowC (f i)]) (EI.lst (slice rfl)) ?_ (by rw [f0]; rfl) (fun _ _ => True.intro) c_law_draws.nd (fun i hi => ?_)) (SB.cons (ST.set 6 EV.int c_law_draws.nd) (SB.cons (ST.forN 5 (n := ((ns.length : Nat) : Int).toNat) (E_ := fun i => E2 (u i)) (M_ := fun i => [rowC (f ns.length)]) (EI.rng1 (EV.len (slice rfl) (by show some (ns.map D.int).length = some ns.length; rw [hnl]) W.b.len) W.b.range (by omega)) ?_ (by rw [hnl]) (fun _ _ => True.intro) c_law_draws.nd (fun i hi => ?_)) (SB.cons (ST.forN 5 (n := ((520 : Int) + 3).toNat) (E_ := fun i => E3 (v i)) (M_ := fun i => [rowC (v i).2]) (EI.rng1 (EV.add (EV.nm 1) EV.int) W.b.range (by decide)) ?_ (by rw [v0]) (fun _ _ => True.intro) c_law_draws.nd (fun i hi => ?_)) (SB.fz (jj := 2) (nn := 0) (ds := (v 523).2.map D.int) rfl rfl (SB.to (SB.one (ST.ret (EV.listRevN (EV.slL (EV.nm 2) EO.none (EO.some (EV.nm 1))) W.b.list W.b.reversed))) ?_))))))⟩
  · exact Fg.refl
  · rw [hnl] at hi
    have e : atO (ns.map D.int) i = .dat (.int (ns.getD i 0)) := by
      rw [atO_map hi, List.getD_eq_getElem?_getD, List.getElem?_eq_getElem hi]
      rfl
    rw [e]
    exact fP i hi
  · rw [u0]
    exact Fg.refl
  · exact uP i (by omega)
  · rw [v0]
    exact Fg.refl
  · exact vP i hi
  · rw [cutD_map, ← List.map_reverse]
    rfl
def drawsR (g : Pg) : Rel := fun os M o M' => ∃ (o0 : O) (res : List Int), SB (mkC g n_law_draws s_law_draws 0) db (pad n_law_draws [o0, .dat (.int 520)]) [] (.rt (.adr 1) [none, rowC res]) ∧ os = [o0, .dat (.int 520)] ∧ M = [] ∧ o = .adr 1 ∧ M' = [none, rowC res]
theorem ok_law_draws (W : Wd g) : FN g "_law_draws" 1 (drawsR g) := by
  refine FN.mk W.t_law_draws c_law_draws (fun _ _ _ _ _ _ us hl => match us, hl with | [_, _], _ => rfl) (fun os M o M' h => by obtain ⟨o0, res, _, rfl, _⟩ := h; rfl) (fun os M o M' h => ?_)
  obtain ⟨o0, res, h, rfl, rfl, rfl, rfl⟩ := h
  exact h
end
/-! ### the law's own reading -/
section
variable {g : Pg}
structure R65 (m : List (List Int)) : Prop where
  l : 1 ≤ m.length ∧ m.length ≤ 65
  w : 1 ≤ wd m ∧ wd m ≤ 64
  rect : ∀ r ∈ m, r.length = wd m
theorem R65.ne {m : List (List Int)} (h : R65 m) : m ≠ [] := fun e => by
  have := h.l.1
  rw [e] at this
  exact absurd this (by decide)
theorem R65.w64 {m : List (List Int)} (h : R65 m) (hl : m.length ≤ 64) : W64 m := ⟨⟨h.l.1, hl⟩, h.w, h.rect⟩
theorem W64.r65 {m : List (List Int)} (h : W64 m) : R65 m := ⟨⟨h.l.1, by have := h.l.2; omega⟩, h.w, h.rect⟩
theorem wide65 {m : List (List Int)} (hl : ¬ m.length ≤ 64) : wideB (tM m) = false := by
  show (okLen (m.map tV).length && _) = false
  have : okLen (m.map tV).length = false := by
    rw [← Bool.not_eq_true, okLen_iff, List.length_map]
    omega
  rw [this]
  rfl
theorem ok_law_number (W : Wd g) : FN g "_law_number" 1 (P1 F_is_number) := by
  refine FN.mk1 W.t_law_number c_law_number (fun _ _ _ _ _ _ us hl => match us, hl with | [_], _ => rfl) (fun d r h => ?_)
  subst h
  exact SB.one (ST.ret (EV.to (EV.and (EV.isInt (EV.nm 0) W.b.isinstance W.b.int) (fun _ => EV.and1 (EV.not (EV.isBool (EV.nm 0) W.b.isinstance W.b.bool))) (fun _ => rfl)) (by cases d <;> rfl)))
theorem ok_law_matrix (W : Wd g) : FN g "_law_matrix" 2 (P1 fun d r => ∃ m, R65 m ∧ d = tM m ∧ r = .bl (decide (m.length ≤ 64))) := by
  refine FN.mk1 W.t_law_matrix c_law_matrix (fun _ _ _ _ _ _ us hl => match us, hl with | [_], _ => rfl) (fun d r h => ?_)
  obtain ⟨m, hm, rfl, rfl⟩ := h
  have hl := hm.l
  have hw := hm.w
  have first : ∀ {k : Bool}, k = !decide (m.length ≤ 64) → ET (mkC g n_law_matrix s_law_matrix 1) (ifOf ((defBody s_law_matrix).getD 0 (.Pass ⟨0, 0, 0, 0⟩))) (pad n_law_matrix [.dat (tM m)]) [] k [] := fun {k} hk => by
    refine ET.to (EW.et (EW.or (k1 := false) (ET.to (ET.not (ET.val (EV.isTuple (EV.nm 0) W.b.isinstance W.b.tuple))) rfl) (fun _ => EW.or1 (ET.not (ET.chain EV.int (EV.len (EV.nm 0) len_tM W.b.len) CS.leI (fun _ => EV.int) (fun _ => CS.leI) (fun _ => rfl)))) (fun z => nomatch z))) ?_
    rw [hk, Bool.false_or]
    congr 1
    rw [Bool.eq_iff_iff]
    simp
    omega
  by_cases h64 : m.length ≤ 64
  · rw [decide_eq_true h64]
    have hlen : (m.map tV).length = m.length := List.length_map _
    refine SB.cons (ST.no (first (by rw [decide_eq_true h64]; rfl)) SB.nil) (SB.cons (ST.forN 1 (n := m.length) (E_ := fun _ => [.dat (tM m), .no, .no]) (M_ := fun _ => []) (hlen ▸ EI.tup (EV.nm 0)) Fg.refl rfl (fun _ _ => True.intro) c_law_matrix.nd (fun i hi => ?_)) (SB.one (ST.ret EV.bl)))
    have hr := hm.rect _ (List.getElem_mem hi)
    rw [atO_map hi]
    generalize m[i] = q at hr
    have hq : (q.map D.int).length = q.length := List.length_map _
    refine ⟨[.dat (tM m), .dat (tV q), .no], Fg.cons (Fg.no Fg.refl), SB.cons (ST.no (ET.to (EW.et (EW.or (k1 := false) (ET.to (ET.not (ET.val (EV.isTuple (EV.nm 1) W.b.isinstance W.b.tuple))) rfl) (fun _ => EW.or (k1 := false) (k2 := false) (ET.to (ET.not (ET.chain EV.int (EV.len (EV.nm 1) len_tV W.b.len) CS.leI (fun _ => EV.int) (fun _ => CS.leI) (fun _ => rfl))) ?_) (fun _ => EW.or1 (ET.to (ET.cm (EV.len (EV.nm 1) len_tV W.b.len) (EV.len (EV.ix (EV.nm 0) EV.int (ix_tM0 hm.ne)) len_tV W.b.len) CS.neI) ?_)) (fun z => nomatch z)) (fun z => nomatch z))) rfl) SB.nil) (SB.one (ST.forN 2 (n := q.length) (E_ := fun _ => [.dat (tM m), .dat (tV q), .no]) (M_ := fun _ => []) (hq ▸ EI.tup (EV.nm 1)) Fg.refl rfl (fun _ _ => True.intro) c_law_matrix.nd (fun j hj => ?_)))⟩
    · rw [Bool.not_eq_false', Bool.and_eq_true, decide_eq_true_eq, decide_eq_true_eq]
      omega
    · rw [Bool.not_eq_false', decide_eq_true_eq, hr]
      rfl
    · rw [atO_map hj]
      exact ⟨[.dat (tM m), .dat (tV q), .dat (.int q[j])], Fg.cons (Fg.cons (Fg.no Fg.nil)), SB.one (ST.no (ET.to (ET.not (ET.val (EV.c1 (ok_law_number W) (EV.nm 2) (by exact rfl)))) rfl) SB.nil)⟩
  · rw [decide_eq_false h64]
    exact SB.stop (ST.yes (first (by rw [decide_eq_false h64]; rfl)) (SB.one (ST.ret EV.bl)))
theorem ok_law_parts_it (W : Wd g) : FN g "_law_parts_it" 1 (P2 fun d e r => ∃ k x : Int, 0 ≤ k ∧ d = .int k ∧ e = .int x ∧ r = .bl (partB k x)) := by
  refine FN.mk2 W.t_law_parts_it c_law_parts_it (fun _ _ _ _ _ _ us hl => match us, hl with | [_, _], _ => rfl) (fun d e r h => ?_)
  obtain ⟨k, x, hk, rfl, rfl, rfl⟩ := h
  by_cases h0 : k = 0
  · have e : partB k x = decide (x = 0) := if_pos h0
    rw [e]
    exact SB.stop (ST.yes (ET.to (ET.cm (EV.nm 0) EV.int CS.eqI) (decide_eq_true h0)) (SB.one (ST.ret (EV.cm (EV.nm 1) EV.int CS.eqI))))
  · have e : partB k x = decide (x % k = 0) := if_neg h0
    rw [e]
    exact SB.cons (ST.no (ET.to (ET.cm (EV.nm 0) EV.int CS.eqI) (decide_eq_false h0)) SB.nil) (SB.one (ST.ret (EV.cm (EV.mod (EV.intI (EV.nm 1) W.b.int) (EV.nm 0) (by omega)) EV.int CS.eqI)))
end
section
variable {g : Pg}
def lstep (s : Int × Bool) (r : List Int) : Int × Bool := match leadF r with
  | none => (s.1, true)
  | some p => ((p : Int), s.2)
def lsts (m : List (List Int)) : Nat → Int × Bool
  | 0 => (-1, false)
  | i + 1 => lstep (lsts m i) (m.getD i [])
def lbad (s : Int × Bool) (r : List Int) : Bool := match leadF r with
  | none => false
  | some p => s.2 || decide ((p : Int) ≤ s.1)
theorem lead_lt {r : List Int} {p : Nat} (h : leadF r = some p) : p < r.length := (List.findIdx?_eq_some_iff_getElem.mp h).1
theorem stairs_rel {m : List (List Int)} (hm : W64 m) : ∀ n, n ≤ m.length → (∀ i, i < n → (stp (lasts m i) (m.getD i [])).isSome = true) → lasts m n = if (lsts m n).2 = true then (wd m : Int) else (lsts m n).1 := fun n => by
  induction n with
  | zero => intro _ _; rfl
  | succ n ih =>
    intro hn h
    have hr := ih (by omega) fun i hi => h i (by omega)
    have hs := h n (by omega)
    have hl : (m.getD n []).length = wd m := hm.rect _ (mem_getD (by omega))
    show (stp (lasts m n) (m.getD n [])).getD 0 = if (lstep (lsts m n) (m.getD n [])).2 = true then (wd m : Int) else (lstep (lsts m n) (m.getD n [])).1
    generalize m.getD n [] = q at hs hl
    generalize lasts m n = L at hs hr
    unfold stp at hs ⊢
    unfold lstep
    cases hf : leadF q with
    | none =>
      show ((some (q.length : Int)).getD 0) = if true = true then (wd m : Int) else _
      rw [if_pos rfl, hl]
      rfl
    | some p =>
      rw [hf] at hs
      have hp := lead_lt hf
      have hs' : (if (p : Int) ≤ L then (none : Option Int) else some (p : Int)).isSome = true := hs
      have hn' : ¬ (p : Int) ≤ L := fun h => by
        rw [if_pos h] at hs'
        cases hs'
      have h2 : (lsts m n).2 = false := by
        rw [← Bool.not_eq_true]
        intro h2
        rw [if_pos h2] at hr
        omega
      show (if (p : Int) ≤ L then (none : Option Int) else some (p : Int)).getD 0 = if (lsts m n).2 = true then (wd m : Int) else (p : Int)
      rw [if_neg hn', h2]
      rfl
theorem stairs_bad {m : List (List Int)} (hm : W64 m) {n : Nat} (hn : n < m.length) (hr : lasts m n = if (lsts m n).2 = true then (wd m : Int) else (lsts m n).1) : lbad (lsts m n) (m.getD n []) = !(stp (lasts m n) (m.getD n [])).isSome := by
  have hl : (m.getD n []).length = wd m := hm.rect _ (mem_getD hn)
  generalize m.getD n [] = q at hl
  generalize lasts m n = L at hr
  generalize lsts m n = s at hr
  unfold lbad stp
  cases hf : leadF q with
  | none => rfl
  | some p =>
    have hp := lead_lt hf
    show (s.2 || decide ((p : Int) ≤ s.1)) = !(if (p : Int) ≤ L then (none : Option Int) else some (p : Int)).isSome
    cases h2 : s.2 with
    | true =>
      rw [h2, if_pos rfl] at hr
      rw [if_pos (by omega)]
      rfl
    | false =>
      rw [h2] at hr
      have hr' : L = s.1 := hr
      rw [hr']
      by_cases h : (p : Int) ≤ s.1
      · rw [if_pos h, decide_eq_true h]
        rfl
      · rw [if_neg h, decide_eq_false h]
        rfl
theorem ech_law {m : List (List Int)} (hm : W64 m) : echB m = (List.range m.length).all fun i => !lbad (lsts m i) (m.getD i []) := by
  rw [Bool.eq_iff_iff]
  unfold echB
  rw [List.all_eq_true, List.all_eq_true]
  constructor
  · intro h i hi
    have hi := List.mem_range.mp hi
    have hr := stairs_rel hm i (by omega) fun j hj => h j (List.mem_range.mpr (by omega))
    rw [stairs_bad hm hi hr, h i (List.mem_range.mpr hi)]
    rfl
  · intro h i hi
    have key : ∀ n, n ≤ m.length → ∀ j, j < n → (stp (lasts m j) (m.getD j [])).isSome = true := fun n => by
      induction n with
      | zero => intro _ j hj; omega
      | succ n ih =>
        intro hn j hj
        by_cases hjn : j < n
        · exact ih (by omega) j hjn
        · have e : j = n := by omega
          subst e
          have hr := stairs_rel hm j (by omega) (ih (by omega))
          have hb := stairs_bad hm (by omega) hr
          have := h j (List.mem_range.mpr (by omega))
          rw [hb, Bool.not_not] at this
          exact this
    exact key m.length (Nat.le_refl _) i (List.mem_range.mp hi)
def live (r : List Int) : List Nat := (List.range r.length).filter fun j => !decide (r.getD j 0 = 0)
theorem live_none {r : List Int} (h : leadF r = none) : live r = [] := by
  unfold live
  rw [List.filter_eq_nil_iff]
  intro j hj
  have hj := List.mem_range.mp hj
  have := List.findIdx?_eq_none_iff.mp h (r.getD j 0) (mem_getD hj)
  rw [this]
  decide
theorem live_some {r : List Int} {p : Nat} (h : leadF r = some p) : ∃ q, live r = p :: q := by
  obtain ⟨hp, h1, h2⟩ := List.findIdx?_eq_some_iff_getElem.mp h
  have e : List.range r.length = List.range p ++ (List.range (r.length - p)).map (p + ·) := by
    rw [← List.range_add]
    congr 1
    omega
  have e2 : List.range (r.length - p) = 0 :: (List.range (r.length - p - 1)).map Nat.succ := by
    rw [← List.range_succ_eq_map]
    congr 1
    omega
  unfold live
  rw [e, List.filter_append, e2, List.map_cons, List.filter_cons]
  have z : (List.range p).filter (fun j => !decide (r.getD j 0 = 0)) = [] := by
    rw [List.filter_eq_nil_iff]
    intro j hj
    have hj := List.mem_range.mp hj
    have := h2 j hj
    rw [List.getD_eq_getElem?_getD, List.getElem?_eq_getElem (by omega)]
    exact this
  have hp0 : (!decide (r.getD (p + 0) 0 = 0)) = true := by
    rw [List.getD_eq_getElem?_getD, Nat.add_zero, List.getElem?_eq_getElem hp]
    exact h1
  rw [z, if_pos hp0]
  exact ⟨_, rfl⟩
theorem ok_law_stairs (W : Wd g) : FN g "_law_stairs" 1 (P1 fun d r => ∃ m, W64 m ∧ d = tM m ∧ r = .bl (echB m)) := by
  refine FN.mk1 W.t_law_stairs c_law_stairs (fun _ _ _ _ _ _ us hl => match us, hl with | [_], _ => rfl) (fun d r h => ?_)
  obtain ⟨m, hm, rfl, rfl⟩ := h
  have hlen : (m.map tV).length = m.length := List.length_map _
  have hat : ∀ i, i < m.length → atO (m.map tV) i = .dat (tV (m.getD i [])) := fun i hi => by
    rw [atO_map hi, List.getD_eq_getElem?_getD, List.getElem?_eq_getElem hi]
    rfl
  have hw : ∀ i, i < m.length → (m.getD i []).length ≤ 64 := fun i hi => by
    rw [hm.rect _ (mem_getD hi)]
    exact hm.w.2
  let E := fun (s : Int × Bool) => ([.dat (tM m), .dat (.int s.1), .dat (.bl s.2), .no, .no, .no] : List O)
  have lv : ∀ (s : Int × Bool) (q : List Int), q.length ≤ 64 → ST (mkC g n_law_stairs s_law_stairs 0) ((bodyOf ((defBody s_law_stairs).getD 2 (.Pass ⟨0, 0, 0, 0⟩))).getD 0 (.Pass ⟨0, 0, 0, 0⟩)) [.dat (tM m), .dat (.int s.1), .dat (.bl s.2), .dat (tV q), .no, .no] [] (.nx [.dat (tM m), .dat (.int s.1), .dat (.bl s.2), .dat (tV q), .dat (.lst ((live q).map fun j : Nat => D.int (j : Int))), .no] []) := fun s q hq => by
    refine LC.set 4 (LC.lPF (n := ((q.length : Nat) : Int).toNat) (f := fun j => !decide (q.getD j 0 = 0)) (v := fun j : Nat => D.int (j : Int)) (own := [("j", 5)]) (by rfl) c_law_stairs.nd (EI.rng1 (EV.len (EV.nm 3) len_tV W.b.len) W.b.range (by omega)) (fun _ => True.intro) (by omega) (Nat.le_refl _) OkM.refl (fun i hi => ⟨_, fun M => EGv.nm 5 c_law_stairs.nd (by decide), fun M => EP.one (ET.cm (EV.ix (EV.nm 3) (EV.nm 5) ?_) EV.int CS.neI), fun _ M => EV.to (EV.nm 5) ?_⟩)) rfl rfl (fun env he => sw_true (by rw [he]; rfl) (by rw [he]; rfl) (by rfl) (by rfl))
    · rw [Int.zero_add]
      exact ix_tV (by omega)
    · show O.dat (.int (0 + (i : Int))) = _
      rw [Int.zero_add]
  have l0 : ∀ {q : List Int}, leadF q = none → lenD (.lst ((live q).map fun j : Nat => D.int (j : Int))) = some 0 := fun {q} h => by
    rw [live_none h]
    rfl
  have good : ∀ (s : Int × Bool) (q : List Int), q.length ≤ 64 → lbad s q = false → ∃ E2, Fg E2 (E (lstep s q)) ∧ SB (mkC g n_law_stairs s_law_stairs 0) (bodyOf ((defBody s_law_stairs).getD 2 (.Pass ⟨0, 0, 0, 0⟩))) [.dat (tM m), .dat (.int s.1), .dat (.bl s.2), .dat (tV q), .no, .no] [] (.nx E2 []) := fun s q hq hb => by
    cases hl : leadF q with
    | none =>
      refine ⟨_, ?_, SB.cons (lv s q hq) (SB.cons (ST.no (ET.to (EW.et (EW.and (k1 := false) (k2 := true) (ET.to (ET.cm (EV.len (EV.nm 4) (l0 hl) W.b.len) EV.int CS.gtI) (by decide)) (fun z => nomatch z) (fun _ => rfl))) rfl) SB.nil) (SB.one (ST.yes (ET.to (ET.cm (EV.len (EV.nm 4) (l0 hl) W.b.len) EV.int CS.eqI) (by decide)) (SB.one (ST.set 2 EV.bl c_law_stairs.nd)))))⟩
      unfold lstep
      rw [hl]
      exact Fg.cons (Fg.cons (Fg.cons (Fg.no (Fg.no Fg.refl))))
    | some p =>
      obtain ⟨t, ht⟩ := live_some hl
      have hlen : lenD (.lst ((live q).map fun j : Nat => D.int (j : Int))) = some (t.length + 1) := by
        rw [ht]
        show some (List.map _ _).length = _
        rw [List.length_map, List.length_cons]
      have hx : ixD (.lst ((live q).map fun j : Nat => D.int (j : Int))) ((0 : Nat) : Int) = some (.int (p : Int)) := by
        rw [ht]
        exact atI_nat rfl
      unfold lbad at hb
      rw [hl] at hb
      have hb' : (s.2 || decide ((p : Int) ≤ s.1)) = false := hb
      refine ⟨_, ?_, SB.cons (lv s q hq) (SB.cons (ST.no (ET.to (EW.et (EW.and (k1 := true) (ET.to (ET.cm (EV.len (EV.nm 4) hlen W.b.len) EV.int CS.gtI) (decide_eq_true (by omega))) (fun _ => EW.and1 (ET.to (EW.et (EW.or (ET.val (EV.nm 2)) (fun _ => EW.or1 (ET.cm (EV.ix (EV.nm 4) EV.int hx) (EV.nm 1) CS.leI)) (fun _ => rfl))) hb')) (fun z => nomatch z))) rfl) SB.nil) (SB.one (ST.no (ET.to (ET.cm (EV.len (EV.nm 4) hlen W.b.len) EV.int CS.eqI) (decide_eq_false (by omega))) (SB.one (ST.set 1 (EV.ix (EV.nm 4) EV.int hx) c_law_stairs.nd)))))⟩
      unfold lstep
      rw [hl]
      exact Fg.cons (Fg.cons (Fg.cons (Fg.no (Fg.no Fg.refl))))
  have bad : ∀ (s : Int × Bool) (q : List Int), q.length ≤ 64 → lbad s q = true → SB (mkC g n_law_stairs s_law_stairs 0) (bodyOf ((defBody s_law_stairs).getD 2 (.Pass ⟨0, 0, 0, 0⟩))) [.dat (tM m), .dat (.int s.1), .dat (.bl s.2), .dat (tV q), .no, .no] [] (.rt (.dat (.bl false)) []) := fun s q hq hb => by
    cases hl : leadF q with
    | none =>
      unfold lbad at hb
      rw [hl] at hb
      cases hb
    | some p =>
      obtain ⟨t, ht⟩ := live_some hl
      have hlen : lenD (.lst ((live q).map fun j : Nat => D.int (j : Int))) = some (t.length + 1) := by
        rw [ht]
        show some (List.map _ _).length = _
        rw [List.length_map, List.length_cons]
      have hx : ixD (.lst ((live q).map fun j : Nat => D.int (j : Int))) ((0 : Nat) : Int) = some (.int (p : Int)) := by
        rw [ht]
        exact atI_nat rfl
      unfold lbad at hb
      rw [hl] at hb
      have hb' : (s.2 || decide ((p : Int) ≤ s.1)) = true := hb
      exact SB.cons (lv s q hq) (SB.stop (ST.yes (ET.to (EW.et (EW.and (k1 := true) (ET.to (ET.cm (EV.len (EV.nm 4) hlen W.b.len) EV.int CS.gtI) (decide_eq_true (by omega))) (fun _ => EW.and1 (ET.to (EW.et (EW.or (ET.val (EV.nm 2)) (fun _ => EW.or1 (ET.cm (EV.ix (EV.nm 4) EV.int hx) (EV.nm 1) CS.leI)) (fun _ => rfl))) hb')) (fun z => nomatch z))) rfl) (SB.one (ST.ret EV.bl))))
  rw [ech_law hm]
  by_cases hex : ∃ i, i < m.length ∧ lbad (lsts m i) (m.getD i []) = true
  · obtain ⟨i, hi1, hi2⟩ := hex
    obtain ⟨k, hk1, hk2, hk3⟩ := least (P := fun i => lbad (lsts m i) (m.getD i []) = true) i hi2
    have e : ((List.range m.length).all fun i => !lbad (lsts m i) (m.getD i [])) = false := by
      rw [← Bool.not_eq_true]
      intro h
      have := List.all_eq_true.mp h k (List.mem_range.mpr (by omega))
      rw [hk2] at this
      cases this
    rw [e]
    refine SB.cons (ST.set 1 (EV.neg EV.int) c_law_stairs.nd) (SB.cons (ST.set 2 EV.bl c_law_stairs.nd) (SB.stop (ST.for (m := k) (n := m.length) (E_ := fun i => E (lsts m i)) (M_ := fun _ => []) (hlen ▸ EI.tup (EV.nm 0)) Fg.refl rfl (by omega) (fun _ _ => True.intro) (fun i hi => ?_) (.inr ⟨by omega, _, _, EG.nm 3 c_law_stairs.nd, .inl ⟨_, _, ?_, rfl⟩⟩))))
    · obtain ⟨E2, h1, h2⟩ := good (lsts m i) (m.getD i []) (hw i (by omega)) (by have := hk3 i hi; simpa using this)
      refine ⟨_, _, E2, EG.nm 3 c_law_stairs.nd, h1, .inl ?_⟩
      rw [hat i (by omega)]
      exact h2
    · rw [hat k (by omega)]
      exact bad _ _ (hw k (by omega)) hk2
  · have hall : ∀ i, i < m.length → lbad (lsts m i) (m.getD i []) = false := fun i hi => by
      rw [← Bool.not_eq_true]
      exact fun h => hex ⟨i, hi, h⟩
    have e : ((List.range m.length).all fun i => !lbad (lsts m i) (m.getD i [])) = true := List.all_eq_true.mpr fun i hi => by
      rw [hall i (List.mem_range.mp hi)]
      rfl
    rw [e]
    refine SB.cons (ST.set 1 (EV.neg EV.int) c_law_stairs.nd) (SB.cons (ST.set 2 EV.bl c_law_stairs.nd) (SB.cons (ST.for (m := m.length) (n := m.length) (E_ := fun i => E (lsts m i)) (M_ := fun _ => []) (hlen ▸ EI.tup (EV.nm 0)) Fg.refl rfl (Nat.le_refl _) (fun _ _ => True.intro) (fun i hi => ?_) (.inl ⟨rfl, rfl⟩)) (SB.one (ST.ret EV.bl))))
    obtain ⟨E2, h1, h2⟩ := good (lsts m i) (m.getD i []) (hw i hi) (hall i hi)
    refine ⟨_, _, E2, EG.nm 3 c_law_stairs.nd, h1, .inl ?_⟩
    rw [hat i hi]
    exact h2
end
/-! ### ranges -/
theorem map_range {α γ : Type} (a0 : α) (f : α → γ) : ∀ xs : List α, xs.map f = (List.range xs.length).map fun k => f (xs.getD k a0)
  | [] => rfl
  | x :: xs => by
    rw [List.map_cons, map_range a0 f xs, List.length_cons, List.range_succ_eq_map, List.map_cons, List.map_map]
    rfl
theorem getD_map {α β : Type} {f : α → β} {b0 : β} {a0 : α} {xs : List α} {k : Nat} (h : k < xs.length) : (xs.map f).getD k b0 = f (xs.getD k a0) := by
  rw [List.getD_eq_getElem?_getD, List.getD_eq_getElem?_getD, List.getElem?_map, List.getElem?_eq_getElem h]
  rfl
theorem cut_take {α : Type} {xs : List α} {i : Nat} (h : i ≤ xs.length) : cutD xs none (some (i : Int)) = xs.take i := by
  unfold cutD
  rw [HT.sIx_none, HT.sIx_nat, Nat.min_eq_left h]
  rfl
theorem cut_drop {α : Type} {xs : List α} {i : Nat} (h : i ≤ xs.length) : cutD xs (some (i : Int)) none = xs.drop i := by
  unfold cutD
  rw [HT.sIx_none, HT.sIx_nat, Nat.min_eq_left h, List.take_of_length_le (by rw [List.length_drop]; exact Nat.le_refl _)]
theorem zip_range {α β γ : Type} (a0 : α) (b0 : β) (f : α → β → γ) : ∀ (xs : List α) (ys : List β), xs.length = ys.length → (xs.zip ys).map (fun u => f u.1 u.2) = (List.range xs.length).map fun k => f (xs.getD k a0) (ys.getD k b0)
  | [], [], _ => rfl
  | [], _ :: _, h => by simp at h
  | _ :: _, [], h => by simp at h
  | x :: xs, y :: ys, h => by
    rw [List.zip_cons_cons, List.map_cons, zip_range a0 b0 f xs ys (by simpa using h), List.length_cons, List.range_succ_eq_map, List.map_cons, List.map_map]
    rfl
theorem dot_range {r c : List Int} (h : r.length = c.length) : dot r c = ((List.range r.length).map fun k => r.getD k 0 * c.getD k 0).sum := by
  unfold dot
  rw [zip_range 0 0 (fun x y => x * y) r c h]
section
variable {g : Pg}
def ent (a b : List (List Int)) (i j : Nat) : Int := ((List.range b.length).map fun k => (a.getD i []).getD k 0 * (b.getD k []).getD j 0).sum
def entB (a b c : List (List Int)) (i j : Nat) : Bool := decide (ent a b i j = (c.getD i []).getD j 0)
theorem dot_ent {a b : List (List Int)} {i j : Nat} (hi : i < a.length) (hj : j < wd b) (hl : (a.getD i []).length = b.length) : dot (a.getD i []) ((flip b).getD j []) = ent a b i j := by
  have e : (flip b).getD j [] = b.map fun r => r.getD j 0 := by
    unfold flip
    rw [getD_map (a0 := 0) (by rw [List.length_range]; exact hj), List.getD_eq_getElem?_getD, List.getElem?_range hj]
    rfl
  rw [e, dot_range (by rw [List.length_map]; exact hl), hl]
  unfold ent
  congr 1
  refine List.map_congr_left fun k hk => ?_
  rw [getD_map (a0 := []) (List.mem_range.mp hk)]
theorem mul_by {a b : List (List Int)} (hl : ∀ r ∈ a, r.length = b.length) : mulM a b = (List.range a.length).map fun i => (List.range (wd b)).map fun j => ent a b i j := by
  unfold mulM
  rw [map_range [] (fun r => (flip b).map fun c => dot r c) a]
  refine List.map_congr_left fun i hi => ?_
  have hi := List.mem_range.mp hi
  rw [map_range [] (fun c => dot (a.getD i []) c) (flip b), flip_length]
  refine List.map_congr_left fun j hj => ?_
  exact dot_ent hi (List.mem_range.mp hj) (hl _ (mem_getD hi))
theorem wd_getD {m : List (List Int)} (h : W64 m) {i : Nat} (hi : i < m.length) : (m.getD i []).length = wd m := h.rect _ (mem_getD hi)
theorem prod_law {a b c : List (List Int)} (ha : W64 a) (hb : W64 b) (hc : W64 c) : prodB a b c = ((decide (wd a = b.length) && (decide (c.length = a.length) && decide (wd c = wd b))) && (List.range a.length).all fun i => (List.range (wd b)).all fun j => entB a b c i j) := by
  unfold prodB
  by_cases h1 : wd a = b.length
  · have hl : ∀ r ∈ a, r.length = b.length := fun r hr => by rw [ha.rect r hr, h1]
    rw [mul_by hl, decide_eq_true (show (wd a : Int) = (b.length : Int) by omega), decide_eq_true h1, Bool.true_and, Bool.true_and, Bool.eq_iff_iff, decide_eq_true_eq, Bool.and_eq_true, Bool.and_eq_true, decide_eq_true_eq, decide_eq_true_eq, List.all_eq_true]
    constructor
    · intro h
      have e1 : c.length = a.length := by rw [← h, List.length_map, List.length_range]
      have e2 : ∀ i, i < a.length → c.getD i [] = (List.range (wd b)).map fun j => ent a b i j := fun i hi => by
        rw [← h, getD_map (a0 := 0) (by rw [List.length_range]; exact hi), List.getD_eq_getElem?_getD, List.getElem?_range hi]
        rfl
      have e3 : wd c = wd b := by
        rw [← wd_getD hc (i := 0) (by have := hc.l.1; omega), e2 0 (by have := ha.l.1; omega), List.length_map, List.length_range]
      refine ⟨⟨e1, e3⟩, fun i hi => List.all_eq_true.mpr fun j hj => ?_⟩
      unfold entB
      rw [e2 i (List.mem_range.mp hi), getD_map (a0 := 0) (by rw [List.length_range]; exact List.mem_range.mp hj), List.getD_eq_getElem?_getD, List.getElem?_range (List.mem_range.mp hj)]
      exact decide_eq_true rfl
    · intro h
      obtain ⟨⟨e1, e2⟩, h⟩ := h
      conv => rhs; rw [← List.map_id c, map_range [] id c, e1]
      refine List.map_congr_left fun i hi => ?_
      have hi' := List.mem_range.mp hi
      show _ = c.getD i []
      have hw := wd_getD hc (i := i) (by omega)
      conv => rhs; rw [← List.map_id (c.getD i []), map_range 0 id (c.getD i []), hw, e2]
      refine List.map_congr_left fun j hj => ?_
      exact of_decide_eq_true (List.all_eq_true.mp (h i hi) j hj)
  · rw [decide_eq_false (show ¬ (wd a : Int) = (b.length : Int) by omega), decide_eq_false h1, Bool.false_and, Bool.false_and, Bool.false_and]
theorem dcast {n m : Nat} : decide ((n : Int) = (m : Int)) = decide (n = m) := by
  rw [Bool.eq_iff_iff, decide_eq_true_eq, decide_eq_true_eq]
  omega
theorem ok_law_sums (W : Wd g) : FN g "_law_sums" 1 (P3 fun d e f r => ∃ a b c, W64 a ∧ W64 b ∧ W64 c ∧ MulOk a b ∧ d = tM a ∧ e = tM b ∧ f = tM c ∧ r = .bl (prodB a b c)) := by
  refine FN.mk3 W.t_law_sums c_law_sums (fun _ _ _ _ _ _ us hl => match us, hl with | [_, _, _], _ => rfl) (fun d e f r h => ?_)
  obtain ⟨a, b, c, ha, hb, hc, ok, rfl, rfl, rfl, rfl⟩ := h
  have a1 := ha.l
  have b1 := hb.l
  have c1 := hc.l
  have b2 := hb.w
  rw [prod_law ha hb hc]
  have hh : ∀ {m : List (List Int)}, W64 m → (m.headD []).length = wd m := fun _ => rfl
  have first : ∀ {k : Bool}, k = !(decide (wd a = b.length) && (decide (c.length = a.length) && decide (wd c = wd b))) → ET (mkC g n_law_sums s_law_sums 0) (ifOf ((defBody s_law_sums).getD 0 (.Pass ⟨0, 0, 0, 0⟩))) (pad n_law_sums [.dat (tM a), .dat (tM b), .dat (tM c)]) [] k [] := fun {k} hk => by
    refine ET.to (EW.et (EW.or (ET.cm (EV.len (EV.ix (EV.nm 0) EV.int (ix_tM0 ha.ne)) len_tV W.b.len) (EV.len (EV.nm 1) len_tM W.b.len) CS.neI) (fun _ => EW.or (ET.cm (EV.len (EV.nm 2) len_tM W.b.len) (EV.len (EV.nm 0) len_tM W.b.len) CS.neI) (fun _ => EW.or1 (ET.cm (EV.len (EV.ix (EV.nm 2) EV.int (ix_tM0 hc.ne)) len_tV W.b.len) (EV.len (EV.ix (EV.nm 1) EV.int (ix_tM0 hb.ne)) len_tV W.b.len) CS.neI)) (fun _ => rfl)) (fun _ => rfl))) ?_
    rw [hk, Bool.not_and, Bool.not_and, hh ha, hh hb, hh hc]
    rw [dcast, dcast, dcast]
  by_cases hd : (decide (wd a = b.length) && (decide (c.length = a.length) && decide (wd c = wd b))) = true
  · rw [hd, Bool.true_and]
    refine SB.cons (ST.no (first (by rw [hd]; rfl)) SB.nil) ?_
    rw [Bool.and_eq_true, Bool.and_eq_true, decide_eq_true_eq, decide_eq_true_eq, decide_eq_true_eq] at hd
    obtain ⟨d1, d2, d3⟩ := hd
    let E := ([.dat (tM a), .dat (tM b), .dat (tM c), .no, .no, .no] : List O)
    have test : ∀ (i j : Nat), i < a.length → j < wd b → ET (mkC g n_law_sums s_law_sums 0) (ifOf ((bodyOf ((bodyOf ((defBody s_law_sums).getD 1 (.Pass ⟨0, 0, 0, 0⟩))).getD 0 (.Pass ⟨0, 0, 0, 0⟩))).getD 0 (.Pass ⟨0, 0, 0, 0⟩))) [.dat (tM a), .dat (tM b), .dat (tM c), .dat (.int (i : Int)), .dat (.int (j : Int)), .no] [] (!entB a b c i j) [] := fun i j hi hj => by
      refine ET.cm (EV.sum (ns := (List.range b.length).map fun k => (a.getD i []).getD k 0 * (b.getD k []).getD j 0) ?_ W.b.sum) (EV.ix (EV.ix (EV.nm 2) (EV.nm 3) (ix_tM (by omega))) (EV.nm 4) (ix_tV (by rw [wd_getD hc (by omega)]; omega))) CS.neI
      rw [List.map_map]
      exact LC.ev (LC.lR 5 (j := ((b.length : Nat) : Int)) (g := fun k => .int ((a.getD i []).getD k 0 * (b.getD k []).getD j 0)) (own := [("k", 5)]) (by rfl) c_law_sums.nd rfl (EV.len (EV.nm 1) len_tM W.b.len) W.b.range (Nat.le_refl _) OkM.refl (by omega) (fun k hk M => EV.mul (EV.ix (EV.ix (EV.nm 0) (EV.nm 3) (ix_tM hi)) (EV.nm 5) (ix_tV (by rw [wd_getD ha hi]; omega))) (EV.ix (EV.ix (EV.nm 1) (EV.nm 5) (ix_tM (by omega))) (EV.nm 4) (ix_tV (by rw [wd_getD hb (by omega)]; exact hj))) (ok _ (mem_getD hi) _ (mem_getD (by rw [wd_getD ha hi]; omega)) _ (mem_getD (by omega)) _ (mem_getD (by rw [wd_getD hb (by omega)]; exact hj)))))
    have inner : ∀ i, i < a.length → ((List.range (wd b)).all fun j => entB a b c i j) = true → SB (mkC g n_law_sums s_law_sums 0) (bodyOf ((defBody s_law_sums).getD 1 (.Pass ⟨0, 0, 0, 0⟩))) [.dat (tM a), .dat (tM b), .dat (tM c), .dat (.int (i : Int)), .no, .no] [] (.nx [.dat (tM a), .dat (tM b), .dat (tM c), .dat (.int (i : Int)), .no, .no] []) := fun i hi h => by
      refine SB.one (ST.forN 4 (n := ((wd b : Nat) : Int).toNat) (E_ := fun _ => [.dat (tM a), .dat (tM b), .dat (tM c), .dat (.int (i : Int)), .no, .no]) (M_ := fun _ => []) (EI.rng1 (EV.len (EV.ix (EV.nm 1) EV.int (ix_tM0 hb.ne)) len_tV W.b.len) W.b.range (by omega)) Fg.refl rfl (fun _ _ => True.intro) c_law_sums.nd (fun j hj => ?_))
      have hj' : j < wd b := hj
      rw [atI0_eq]
      refine ⟨[.dat (tM a), .dat (tM b), .dat (tM c), .dat (.int (i : Int)), .dat (.int (j : Int)), .no], ?_, SB.one (ST.no (ET.to (test i j hi hj') ?_) SB.nil)⟩
      · exact Fg.cons (Fg.cons (Fg.cons (Fg.cons (Fg.no Fg.refl))))
      · rw [List.all_eq_true.mp h j (List.mem_range.mpr hj')]
        rfl
    by_cases hex : ∃ i, i < a.length ∧ ((List.range (wd b)).all fun j => entB a b c i j) = false
    · obtain ⟨i0, hi0, hi2⟩ := hex
      obtain ⟨i, h1, h2, h3⟩ := least (P := fun i => ((List.range (wd b)).all fun j => entB a b c i j) = false) i0 hi2
      have e : ((List.range a.length).all fun i => (List.range (wd b)).all fun j => entB a b c i j) = false := by
        rw [← Bool.not_eq_true]
        intro h
        have := List.all_eq_true.mp h i (List.mem_range.mpr (by omega))
        rw [h2] at this
        cases this
      rw [e]
      have hjx : ∃ j, j < wd b ∧ entB a b c i j = false := by
        apply Classical.byContradiction
        intro hn
        have : ((List.range (wd b)).all fun j => entB a b c i j) = true := List.all_eq_true.mpr fun j hj => by
          rw [← Bool.not_eq_false]
          exact fun h => hn ⟨j, List.mem_range.mp hj, h⟩
        rw [h2] at this
        cases this
      obtain ⟨j0, hj0, hj2⟩ := hjx
      obtain ⟨j, k1, k2, k3⟩ := least (P := fun j => entB a b c i j = false) j0 hj2
      refine SB.stop (ST.for (m := i) (n := ((a.length : Nat) : Int).toNat) (E_ := fun _ => E) (M_ := fun _ => []) (EI.rng1 (EV.len (EV.nm 0) len_tM W.b.len) W.b.range (by omega)) Fg.refl rfl (by omega) (fun _ _ => True.intro) (fun n hn => ?_) (.inr ⟨by omega, _, _, EG.nm 3 c_law_sums.nd, .inl ⟨_, _, ?_, rfl⟩⟩))
      · have hg : ((List.range (wd b)).all fun j => entB a b c n j) = true := by
          rw [← Bool.not_eq_false]
          exact h3 n hn
        refine ⟨_, _, [.dat (tM a), .dat (tM b), .dat (tM c), .dat (.int (n : Int)), .no, .no], EG.nm 3 c_law_sums.nd, Fg.cons (Fg.cons (Fg.cons (Fg.no Fg.refl))), .inl ?_⟩
        rw [atI0_eq]
        exact inner n (by omega) hg
      · rw [atI0_eq]
        refine SB.stop (ST.for (m := j) (n := ((wd b : Nat) : Int).toNat) (E_ := fun _ => [.dat (tM a), .dat (tM b), .dat (tM c), .dat (.int (i : Int)), .no, .no]) (M_ := fun _ => []) (EI.rng1 (EV.len (EV.ix (EV.nm 1) EV.int (ix_tM0 hb.ne)) len_tV W.b.len) W.b.range (by omega)) Fg.refl rfl (by omega) (fun _ _ => True.intro) (fun n hn => ?_) (.inr ⟨by omega, _, _, EG.nm 4 c_law_sums.nd, .inl ⟨_, _, ?_, rfl⟩⟩))
        · refine ⟨_, _, [.dat (tM a), .dat (tM b), .dat (tM c), .dat (.int (i : Int)), .dat (.int (n : Int)), .no], EG.nm 4 c_law_sums.nd, Fg.cons (Fg.cons (Fg.cons (Fg.cons (Fg.no Fg.refl)))), .inl ?_⟩
          rw [atI0_eq]
          have hg : entB a b c i n = true := by
            rw [← Bool.not_eq_false]
            exact k3 n hn
          exact SB.one (ST.no (ET.to (test i n (by omega) (by omega)) (by rw [hg]; rfl)) SB.nil)
        · rw [atI0_eq]
          exact SB.one (ST.yes (ET.to (test i j (by omega) (by omega)) (by rw [k2]; rfl)) (SB.one (ST.ret EV.bl)))
    · have hall : ∀ i, i < a.length → ((List.range (wd b)).all fun j => entB a b c i j) = true := fun i hi => by
        rw [← Bool.not_eq_false]
        exact fun h => hex ⟨i, hi, h⟩
      have e : ((List.range a.length).all fun i => (List.range (wd b)).all fun j => entB a b c i j) = true := List.all_eq_true.mpr fun i hi => hall i (List.mem_range.mp hi)
      rw [e]
      refine SB.cons (ST.forN 3 (n := ((a.length : Nat) : Int).toNat) (E_ := fun _ => E) (M_ := fun _ => []) (EI.rng1 (EV.len (EV.nm 0) len_tM W.b.len) W.b.range (by omega)) Fg.refl rfl (fun _ _ => True.intro) c_law_sums.nd (fun i hi => ?_)) (SB.one (ST.ret EV.bl))
      refine ⟨_, ?_, by rw [atI0_eq]; exact inner i (by omega) (hall i (by omega))⟩
      exact Fg.cons (Fg.cons (Fg.cons (Fg.no Fg.refl)))
  · have hd' : (decide (wd a = b.length) && (decide (c.length = a.length) && decide (wd c = wd b))) = false := by simpa using hd
    rw [hd', Bool.false_and]
    exact SB.stop (ST.yes (first (by rw [hd']; rfl)) (SB.one (ST.ret EV.bl)))
end
section
variable {g : Pg}
def iterOf : Stmt → Expr
  | .For _ i _ _ _ => i
  | _ => .Constant .none 0 ⟨0, 0, 0, 0⟩
theorem each_walk {c : D} {m : List (List Int)} {q : Int → Bool} {rv rw : Bool} {kk : Nat} (hm : W64 m) (hi : EV (mkC g n_law_each s_law_each kk) (iterOf ((defBody s_law_each).getD 0 (.Pass ⟨0, 0, 0, 0⟩))) [.dat c, .no, .no] [] (.dat (tM m)) [])
    (hs : ∀ (r : List Int) (x : Int), q x = true → SB (mkC g n_law_each s_law_each kk) (bodyOf ((bodyOf ((defBody s_law_each).getD 0 (.Pass ⟨0, 0, 0, 0⟩))).getD 0 (.Pass ⟨0, 0, 0, 0⟩))) [.dat c, .dat (tV r), .dat (.int x)] [] (.rt (.dat (.bl rv)) []))
    (hg : ∀ (r : List Int) (x : Int), q x = false → SB (mkC g n_law_each s_law_each kk) (bodyOf ((bodyOf ((defBody s_law_each).getD 0 (.Pass ⟨0, 0, 0, 0⟩))).getD 0 (.Pass ⟨0, 0, 0, 0⟩))) [.dat c, .dat (tV r), .dat (.int x)] [] (.nx [.dat c, .dat (tV r), .dat (.int x)] []))
    (hf : SB (mkC g n_law_each s_law_each kk) ((defBody s_law_each).drop 1) [.dat c, .no, .no] [] (.rt (.dat (.bl rw)) [])) :
    SB (mkC g n_law_each s_law_each kk) (defBody s_law_each) [.dat c, .no, .no] [] (.rt (.dat (.bl (if m.flatten.any q then rv else rw))) []) := by
  have hlen : (m.map tV).length = m.length := List.length_map _
  have hat : ∀ i, i < m.length → atO (m.map tV) i = .dat (tV (m.getD i [])) := fun i hi => by
    rw [atO_map hi, List.getD_eq_getElem?_getD, List.getElem?_eq_getElem hi]
    rfl
  have hat2 : ∀ (r : List Int) j, j < r.length → atO (r.map D.int) j = .dat (.int (r.getD j 0)) := fun r i hi => by
    rw [atO_map hi, List.getD_eq_getElem?_getD, List.getElem?_eq_getElem hi]
    rfl
  have hl2 : ∀ r : List Int, (r.map D.int).length = r.length := fun r => List.length_map _
  have inner : ∀ r : List Int, r.any q = false → SB (mkC g n_law_each s_law_each kk) (bodyOf ((defBody s_law_each).getD 0 (.Pass ⟨0, 0, 0, 0⟩))) [.dat c, .dat (tV r), .no] [] (.nx [.dat c, .dat (tV r), .no] []) := fun r h => by
    refine SB.one (ST.forN 2 (n := r.length) (E_ := fun _ => [.dat c, .dat (tV r), .no]) (M_ := fun _ => []) (hl2 r ▸ EI.tup (EV.nm 1)) Fg.refl rfl (fun _ _ => True.intro) c_law_each.nd (fun j hj => ?_))
    rw [hat2 r j hj]
    refine ⟨_, ?_, hg r (r.getD j 0) ?_⟩
    · exact Fg.cons (Fg.cons (Fg.no Fg.nil))
    · have := List.any_eq_false.mp h (r.getD j 0) (mem_getD hj)
      simpa using this
  have hfl : m.flatten.any q = m.any fun r => r.any q := List.any_flatten
  rw [hfl]
  by_cases hex : ∃ i, i < m.length ∧ (m.getD i []).any q = true
  · obtain ⟨i0, hi0, hi2⟩ := hex
    obtain ⟨i, h1, h2, h3⟩ := least (P := fun i => (m.getD i []).any q = true) i0 hi2
    have e : (m.any fun r => r.any q) = true := List.any_eq_true.mpr ⟨_, mem_getD (by omega), h2⟩
    rw [e, if_pos rfl]
    generalize hrr : m.getD i [] = r at h2
    have hjx : ∃ j, j < r.length ∧ q (r.getD j 0) = true := by
      obtain ⟨x, hx, hqx⟩ := List.any_eq_true.mp h2
      obtain ⟨j, hj⟩ := List.getElem?_of_mem hx
      have hlt := (List.getElem?_eq_some_iff.mp hj).1
      refine ⟨j, hlt, ?_⟩
      rw [List.getD_eq_getElem?_getD, hj]
      exact hqx
    obtain ⟨j0, hj0, hj2⟩ := hjx
    obtain ⟨j, k1, k2, k3⟩ := least (P := fun j => q (r.getD j 0) = true) j0 hj2
    refine SB.stop (ST.for (m := i) (n := m.length) (E_ := fun _ => [.dat c, .no, .no]) (M_ := fun _ => []) (hlen ▸ EI.tup hi) Fg.refl rfl (by omega) (fun _ _ => True.intro) (fun n hn => ?_) (.inr ⟨by omega, _, _, EG.nm 1 c_law_each.nd, .inl ⟨_, _, ?_, rfl⟩⟩))
    · refine ⟨_, _, [.dat c, .dat (tV (m.getD n [])), .no], EG.nm 1 c_law_each.nd, Fg.cons (Fg.no Fg.refl), .inl ?_⟩
      rw [hat n (by omega)]
      exact inner _ (by have := h3 n hn; simpa using this)
    · rw [hat i (by omega), hrr]
      refine SB.stop (ST.for (m := j) (n := r.length) (E_ := fun _ => [.dat c, .dat (tV r), .no]) (M_ := fun _ => []) (hl2 r ▸ EI.tup (EV.nm 1)) Fg.refl rfl (by omega) (fun _ _ => True.intro) (fun n hn => ?_) (.inr ⟨by omega, _, _, EG.nm 2 c_law_each.nd, .inl ⟨_, _, ?_, rfl⟩⟩))
      · refine ⟨_, _, [.dat c, .dat (tV r), .dat (.int (r.getD n 0))], EG.nm 2 c_law_each.nd, Fg.cons (Fg.cons (Fg.no Fg.nil)), .inl ?_⟩
        rw [hat2 r n (by omega)]
        exact hg r (r.getD n 0) (by have := k3 n hn; simpa using this)
      · rw [hat2 r j (by omega)]
        exact hs r (r.getD j 0) k2
  · have e : (m.any fun r => r.any q) = false := by
      rw [← Bool.not_eq_true]
      intro h
      obtain ⟨r, hr, hq⟩ := List.any_eq_true.mp h
      obtain ⟨i, hi⟩ := List.getElem?_of_mem hr
      have hlt := (List.getElem?_eq_some_iff.mp hi).1
      refine hex ⟨i, hlt, ?_⟩
      rw [List.getD_eq_getElem?_getD, hi]
      exact hq
    have hall : ∀ i, i < m.length → (m.getD i []).any q = false := fun i hi => by
      rw [← Bool.not_eq_true]
      exact fun h => hex ⟨i, hi, h⟩
    rw [e, if_neg Bool.false_ne_true]
    refine SB.cons (ST.forN 1 (n := m.length) (E_ := fun _ => [.dat c, .no, .no]) (M_ := fun _ => []) (hlen ▸ EI.tup hi) Fg.refl rfl (fun _ _ => True.intro) c_law_each.nd (fun i hi => ?_)) hf
    rw [hat i hi]
    exact ⟨_, Fg.cons (Fg.no Fg.refl), inner _ (hall i hi)⟩
inductive EC : D → Bool → Prop
  | least {m : List (List Int)} {k : Int} (hm : W64 m) : EC (.tup [.str "least", tM m, .int k]) (m.flatten.all fun x => decide (k ≤ x))
  | less {m : List (List Int)} {k : Int} (hm : W64 m) : EC (.tup [.str "less", tM m, .int k]) (m.flatten.all fun x => decide (x < k))
  | divides {k : Int} {m : List (List Int)} (hk : 0 ≤ k) (hm : W64 m) : EC (.tup [.str "divides", .int k, tM m]) (m.flatten.all (partB k))
  | notdiv {k : Int} {m : List (List Int)} (hk : 0 ≤ k) (hm : W64 m) : EC (.tup [.str "not divides", .int k, tM m]) (!m.flatten.all (partB k))
theorem any_all {l : List Int} {p q : Int → Bool} (h : ∀ x, p x = !q x) : l.all p = !l.any q := by
  induction l with
  | nil => rfl
  | cons x l ih => rw [List.all_cons, List.any_cons, ih, h, Bool.not_or]
theorem each_eq {l : List Int} {p q : Int → Bool} (h : ∀ x, p x = !q x) : Out.rt (.dat (.bl (if l.any q then false else true))) [] = Out.rt (.dat (.bl (l.all p))) [] := by
  rw [any_all h]
  cases l.any q <;> rfl
theorem each_eq2 {l : List Int} {p q : Int → Bool} (h : ∀ x, p x = !q x) : Out.rt (.dat (.bl (if l.any q then true else false))) [] = Out.rt (.dat (.bl (!l.all p))) [] := by
  rw [any_all h]
  cases l.any q <;> rfl
theorem ok_law_each (W : Wd g) : FN g "_law_each" 2 (P1 fun d r => ∃ b, EC d b ∧ r = .bl b) := by
  refine FN.mk1 W.t_law_each c_law_each (fun _ _ _ _ _ _ us hl => match us, hl with | [_], _ => rfl) (fun d r h => ?_)
  obtain ⟨b, hc, rfl⟩ := h
  cases hc with
  | @least m k hm =>
    have x0 : ixD (.tup [.str "least", tM m, .int k]) ((0 : Nat) : Int) = some (.str "least") := atI_nat rfl
    have x1 : ixD (.tup [.str "least", tM m, .int k]) ((1 : Nat) : Int) = some (tM m) := atI_nat rfl
    have x2 : ixD (.tup [.str "least", tM m, .int k]) ((2 : Nat) : Int) = some (.int k) := atI_nat rfl
    refine SB.to (each_walk (q := fun x => decide (x < k)) (rv := false) (rw := true) hm (EV.ix (EV.nm 0) (EV.to (o' := .dat (.int 1)) (EV.sub EV.int (EV.intB (EV.or (k1 := true) (k2 := true) (EV.to (o' := .dat (.bl true)) (EV.cm (EV.ix (EV.nm 0) EV.int x0) EV.str CS.eqS) rfl) (fun z => nomatch z) (fun _ => rfl)) W.b.int)) rfl) x1) (fun r x hq => ?_) (fun r x hq => ?_) (SB.one (ST.ret (EV.to (EV.cm (EV.ix (EV.nm 0) EV.int x0) EV.str CS.neS) (by rw [decide_eq_false (by decide)]; rfl))))) ?_
    · exact SB.stop (ST.yes (ET.to (EW.et (EW.or (k2 := false) (EW.et (EW.and (k1 := true) (ET.to (ET.cm (EV.ix (EV.nm 0) EV.int x0) EV.str CS.eqS) (by decide)) (fun _ => EW.and1 (ET.cm (EV.nm 2) (EV.ix (EV.nm 0) EV.int x2) CS.ltI)) (fun z => nomatch z))) (fun _ => EW.or1 (ET.to (EW.et (EW.and (k1 := false) (k2 := true) (ET.to (ET.cm (EV.ix (EV.nm 0) EV.int x0) EV.str CS.eqS) (by decide)) (fun z => nomatch z) (fun _ => rfl))) rfl)) (fun _ => rfl))) (by simpa using hq)) (SB.one (ST.ret EV.bl)))
    · exact SB.cons (ST.no (ET.to (EW.et (EW.or (k2 := false) (EW.et (EW.and (k1 := true) (ET.to (ET.cm (EV.ix (EV.nm 0) EV.int x0) EV.str CS.eqS) (by decide)) (fun _ => EW.and1 (ET.cm (EV.nm 2) (EV.ix (EV.nm 0) EV.int x2) CS.ltI)) (fun z => nomatch z))) (fun _ => EW.or1 (ET.to (EW.et (EW.and (k1 := false) (k2 := true) (ET.to (ET.cm (EV.ix (EV.nm 0) EV.int x0) EV.str CS.eqS) (by decide)) (fun z => nomatch z) (fun _ => rfl))) rfl)) (fun _ => rfl))) (by simpa using hq)) SB.nil) (SB.cons (ST.no (ET.to (EW.et (EW.and (k1 := false) (k2 := true) (ET.to (ET.cm (EV.ix (EV.nm 0) EV.int x0) EV.str CS.eqS) (by decide)) (fun z => nomatch z) (fun _ => rfl))) rfl) SB.nil) (SB.one (ST.no (ET.to (EW.et (EW.and (k1 := false) (k2 := true) (ET.to (ET.cm (EV.ix (EV.nm 0) EV.int x0) EV.str CS.eqS) (by decide)) (fun z => nomatch z) (fun _ => rfl))) rfl) SB.nil)))
    · exact each_eq (fun x => by rw [Bool.eq_iff_iff]; simp)
  | @less m k hm =>
    have x0 : ixD (.tup [.str "less", tM m, .int k]) ((0 : Nat) : Int) = some (.str "less") := atI_nat rfl
    have x1 : ixD (.tup [.str "less", tM m, .int k]) ((1 : Nat) : Int) = some (tM m) := atI_nat rfl
    have x2 : ixD (.tup [.str "less", tM m, .int k]) ((2 : Nat) : Int) = some (.int k) := atI_nat rfl
    refine SB.to (each_walk (q := fun x => decide (k ≤ x)) (rv := false) (rw := true) hm (EV.ix (EV.nm 0) (EV.to (o' := .dat (.int 1)) (EV.sub EV.int (EV.intB (EV.or (k1 := false) (k2 := true) (EV.to (o' := .dat (.bl false)) (EV.cm (EV.ix (EV.nm 0) EV.int x0) EV.str CS.eqS) (by rw [decide_eq_false (by decide)])) (fun _ => EV.or1 (EV.to (o' := .dat (.bl true)) (EV.cm (EV.ix (EV.nm 0) EV.int x0) EV.str CS.eqS) rfl)) (fun z => nomatch z)) W.b.int)) rfl) x1) (fun r x hq => ?_) (fun r x hq => ?_) (SB.one (ST.ret (EV.to (EV.cm (EV.ix (EV.nm 0) EV.int x0) EV.str CS.neS) (by rw [decide_eq_false (by decide)]; rfl))))) ?_
    · exact SB.stop (ST.yes (ET.to (EW.et (EW.or (k1 := false) (ET.to (EW.et (EW.and (k1 := false) (k2 := true) (ET.to (ET.cm (EV.ix (EV.nm 0) EV.int x0) EV.str CS.eqS) (by decide)) (fun z => nomatch z) (fun _ => rfl))) rfl) (fun _ => EW.or1 (EW.et (EW.and (k1 := true) (ET.to (ET.cm (EV.ix (EV.nm 0) EV.int x0) EV.str CS.eqS) (by decide)) (fun _ => EW.and1 (ET.cm (EV.nm 2) (EV.ix (EV.nm 0) EV.int x2) CS.geI)) (fun z => nomatch z)))) (fun z => nomatch z))) (by simpa using hq)) (SB.one (ST.ret EV.bl)))
    · exact SB.cons (ST.no (ET.to (EW.et (EW.or (k1 := false) (ET.to (EW.et (EW.and (k1 := false) (k2 := true) (ET.to (ET.cm (EV.ix (EV.nm 0) EV.int x0) EV.str CS.eqS) (by decide)) (fun z => nomatch z) (fun _ => rfl))) rfl) (fun _ => EW.or1 (EW.et (EW.and (k1 := true) (ET.to (ET.cm (EV.ix (EV.nm 0) EV.int x0) EV.str CS.eqS) (by decide)) (fun _ => EW.and1 (ET.cm (EV.nm 2) (EV.ix (EV.nm 0) EV.int x2) CS.geI)) (fun z => nomatch z)))) (fun z => nomatch z))) (by simpa using hq)) SB.nil) (SB.cons (ST.no (ET.to (EW.et (EW.and (k1 := false) (k2 := true) (ET.to (ET.cm (EV.ix (EV.nm 0) EV.int x0) EV.str CS.eqS) (by decide)) (fun z => nomatch z) (fun _ => rfl))) rfl) SB.nil) (SB.one (ST.no (ET.to (EW.et (EW.and (k1 := false) (k2 := true) (ET.to (ET.cm (EV.ix (EV.nm 0) EV.int x0) EV.str CS.eqS) (by decide)) (fun z => nomatch z) (fun _ => rfl))) rfl) SB.nil)))
    · exact each_eq (fun x => by rw [Bool.eq_iff_iff]; simp)
  | @divides k m hk hm =>
    have x0 : ixD (.tup [.str "divides", .int k, tM m]) ((0 : Nat) : Int) = some (.str "divides") := atI_nat rfl
    have x1 : ixD (.tup [.str "divides", .int k, tM m]) ((1 : Nat) : Int) = some (.int k) := atI_nat rfl
    have x2 : ixD (.tup [.str "divides", .int k, tM m]) ((2 : Nat) : Int) = some (tM m) := atI_nat rfl
    refine SB.to (each_walk (q := fun x => !partB k x) (rv := false) (rw := true) hm (EV.ix (EV.nm 0) (EV.to (o' := .dat (.int 2)) (EV.sub EV.int (EV.intB (EV.or (k1 := false) (k2 := false) (EV.to (o' := .dat (.bl false)) (EV.cm (EV.ix (EV.nm 0) EV.int x0) EV.str CS.eqS) (by rw [decide_eq_false (by decide)])) (fun _ => EV.or1 (EV.to (o' := .dat (.bl false)) (EV.cm (EV.ix (EV.nm 0) EV.int x0) EV.str CS.eqS) (by rw [decide_eq_false (by decide)]))) (fun z => nomatch z)) W.b.int)) rfl) x2) (fun r x hq => ?_) (fun r x hq => ?_) (SB.one (ST.ret (EV.to (EV.cm (EV.ix (EV.nm 0) EV.int x0) EV.str CS.neS) (by rw [decide_eq_false (by decide)]; rfl))))) ?_
    · exact SB.cons (ST.no (ET.to (EW.et (EW.or (k1 := false) (ET.to (EW.et (EW.and (k1 := false) (k2 := true) (ET.to (ET.cm (EV.ix (EV.nm 0) EV.int x0) EV.str CS.eqS) (by decide)) (fun z => nomatch z) (fun _ => rfl))) rfl) (fun _ => EW.or1 (ET.to (EW.et (EW.and (k1 := false) (k2 := true) (ET.to (ET.cm (EV.ix (EV.nm 0) EV.int x0) EV.str CS.eqS) (by decide)) (fun z => nomatch z) (fun _ => rfl))) rfl)) (fun z => nomatch z))) rfl) SB.nil) (SB.stop (ST.yes (ET.to (EW.et (EW.and (k1 := true) (ET.to (ET.cm (EV.ix (EV.nm 0) EV.int x0) EV.str CS.eqS) (by decide)) (fun _ => EW.and1 (ET.not (ET.val (EV.c2 (ok_law_parts_it W) (EV.ix (EV.nm 0) EV.int x1) (EV.nm 2) ⟨k, x, hk, rfl, rfl, rfl⟩)))) (fun z => nomatch z))) (by simpa using hq)) (SB.one (ST.ret EV.bl))))
    · exact SB.cons (ST.no (ET.to (EW.et (EW.or (k1 := false) (ET.to (EW.et (EW.and (k1 := false) (k2 := true) (ET.to (ET.cm (EV.ix (EV.nm 0) EV.int x0) EV.str CS.eqS) (by decide)) (fun z => nomatch z) (fun _ => rfl))) rfl) (fun _ => EW.or1 (ET.to (EW.et (EW.and (k1 := false) (k2 := true) (ET.to (ET.cm (EV.ix (EV.nm 0) EV.int x0) EV.str CS.eqS) (by decide)) (fun z => nomatch z) (fun _ => rfl))) rfl)) (fun z => nomatch z))) rfl) SB.nil) (SB.cons (ST.no (ET.to (EW.et (EW.and (k1 := true) (ET.to (ET.cm (EV.ix (EV.nm 0) EV.int x0) EV.str CS.eqS) (by decide)) (fun _ => EW.and1 (ET.not (ET.val (EV.c2 (ok_law_parts_it W) (EV.ix (EV.nm 0) EV.int x1) (EV.nm 2) ⟨k, x, hk, rfl, rfl, rfl⟩)))) (fun z => nomatch z))) (by simpa using hq)) SB.nil) (SB.one (ST.no (ET.to (EW.et (EW.and (k1 := false) (k2 := true) (ET.to (ET.cm (EV.ix (EV.nm 0) EV.int x0) EV.str CS.eqS) (by decide)) (fun z => nomatch z) (fun _ => rfl))) rfl) SB.nil)))
    · exact each_eq (fun x => (Bool.not_not _).symm)
  | @notdiv k m hk hm =>
    have x0 : ixD (.tup [.str "not divides", .int k, tM m]) ((0 : Nat) : Int) = some (.str "not divides") := atI_nat rfl
    have x1 : ixD (.tup [.str "not divides", .int k, tM m]) ((1 : Nat) : Int) = some (.int k) := atI_nat rfl
    have x2 : ixD (.tup [.str "not divides", .int k, tM m]) ((2 : Nat) : Int) = some (tM m) := atI_nat rfl
    refine SB.to (each_walk (q := fun x => !partB k x) (rv := true) (rw := false) hm (EV.ix (EV.nm 0) (EV.to (o' := .dat (.int 2)) (EV.sub EV.int (EV.intB (EV.or (k1 := false) (k2 := false) (EV.to (o' := .dat (.bl false)) (EV.cm (EV.ix (EV.nm 0) EV.int x0) EV.str CS.eqS) (by rw [decide_eq_false (by decide)])) (fun _ => EV.or1 (EV.to (o' := .dat (.bl false)) (EV.cm (EV.ix (EV.nm 0) EV.int x0) EV.str CS.eqS) (by rw [decide_eq_false (by decide)]))) (fun z => nomatch z)) W.b.int)) rfl) x2) (fun r x hq => ?_) (fun r x hq => ?_) (SB.one (ST.ret (EV.to (EV.cm (EV.ix (EV.nm 0) EV.int x0) EV.str CS.neS) rfl)))) ?_
    · exact SB.cons (ST.no (ET.to (EW.et (EW.or (k1 := false) (ET.to (EW.et (EW.and (k1 := false) (k2 := true) (ET.to (ET.cm (EV.ix (EV.nm 0) EV.int x0) EV.str CS.eqS) (by decide)) (fun z => nomatch z) (fun _ => rfl))) rfl) (fun _ => EW.or1 (ET.to (EW.et (EW.and (k1 := false) (k2 := true) (ET.to (ET.cm (EV.ix (EV.nm 0) EV.int x0) EV.str CS.eqS) (by decide)) (fun z => nomatch z) (fun _ => rfl))) rfl)) (fun z => nomatch z))) rfl) SB.nil) (SB.cons (ST.no (ET.to (EW.et (EW.and (k1 := false) (k2 := true) (ET.to (ET.cm (EV.ix (EV.nm 0) EV.int x0) EV.str CS.eqS) (by decide)) (fun z => nomatch z) (fun _ => rfl))) rfl) SB.nil) (SB.one (ST.yes (ET.to (EW.et (EW.and (k1 := true) (ET.to (ET.cm (EV.ix (EV.nm 0) EV.int x0) EV.str CS.eqS) (by decide)) (fun _ => EW.and1 (ET.not (ET.val (EV.c2 (ok_law_parts_it W) (EV.ix (EV.nm 0) EV.int x1) (EV.nm 2) ⟨k, x, hk, rfl, rfl, rfl⟩)))) (fun z => nomatch z))) (by simpa using hq)) (SB.one (ST.ret EV.bl)))))
    · exact SB.cons (ST.no (ET.to (EW.et (EW.or (k1 := false) (ET.to (EW.et (EW.and (k1 := false) (k2 := true) (ET.to (ET.cm (EV.ix (EV.nm 0) EV.int x0) EV.str CS.eqS) (by decide)) (fun z => nomatch z) (fun _ => rfl))) rfl) (fun _ => EW.or1 (ET.to (EW.et (EW.and (k1 := false) (k2 := true) (ET.to (ET.cm (EV.ix (EV.nm 0) EV.int x0) EV.str CS.eqS) (by decide)) (fun z => nomatch z) (fun _ => rfl))) rfl)) (fun z => nomatch z))) rfl) SB.nil) (SB.cons (ST.no (ET.to (EW.et (EW.and (k1 := false) (k2 := true) (ET.to (ET.cm (EV.ix (EV.nm 0) EV.int x0) EV.str CS.eqS) (by decide)) (fun z => nomatch z) (fun _ => rfl))) rfl) SB.nil) (SB.one (ST.no (ET.to (EW.et (EW.and (k1 := true) (ET.to (ET.cm (EV.ix (EV.nm 0) EV.int x0) EV.str CS.eqS) (by decide)) (fun _ => EW.and1 (ET.not (ET.val (EV.c2 (ok_law_parts_it W) (EV.ix (EV.nm 0) EV.int x1) (EV.nm 2) ⟨k, x, hk, rfl, rfl, rfl⟩)))) (fun z => nomatch z))) (by simpa using hq)) SB.nil)))
    · exact each_eq2 (fun x => (Bool.not_not _).symm)
end
section
variable {g : Pg}
theorem ev_mat (W : Wd g) {E : List O} {M M' : Mem} {a : Expr} {p pos : Pos} {m : List (List Int)} (hm : W64 m) (ha : EV (mkC g n_law_claim s_law_claim 2) a E M (.dat (tM m)) M') (he : ∀ env, starEach [a] env = (false, eval a env) :: starEach [] env := by intro _; rfl) : EV (mkC g n_law_claim s_law_claim 2) (.Call (.Name "_law_matrix" p) [a] [] pos) E M (.dat (.bl true)) M' :=
  EV.to (EV.c1 (ok_law_matrix W) ha ⟨m, hm.r65, rfl, rfl⟩ rfl rfl (by decide) he) (by rw [decide_eq_true hm.l.2])
/-- what is asked of the law's own reading -/
def Dm (d : D) : Prop := ((∃ b, CL d b) ∧ Mild d) ∨ ∃ a b, W64 a ∧ R65 b ∧ ¬ b.length ≤ 64 ∧ d = .tup [.str "same", tM a, tM b]
theorem ok_law_claim (W : Wd g) : FN g "_law_claim" 3 (P1 fun d r => Dm d ∧ r = .bl (goodB d)) := by
  refine FN.mk1 W.t_law_claim c_law_claim (fun _ _ _ _ _ _ us hl => match us, hl with | [_], _ => rfl) (fun d r h => ?_)
  obtain ⟨hd, rfl⟩ := h
  rcases hd with ⟨⟨b, hc⟩, hm⟩ | ⟨a, b, ha, hb, hn, rfl⟩
  rw [good_of hc]
  cases hc with
  | @product a b c ha hb hc =>
    have x0 : ixD (.tup [.str "product", tM a, tM b, tM c]) ((0 : Nat) : Int) = some (.str "product") := atI_nat rfl
    have x1 : ixD (.tup [.str "product", tM a, tM b, tM c]) ((1 : Nat) : Int) = some (tM a) := atI_nat rfl
    have x2 : ixD (.tup [.str "product", tM a, tM b, tM c]) ((2 : Nat) : Int) = some (tM b) := atI_nat rfl
    have x3 : ixD (.tup [.str "product", tM a, tM b, tM c]) ((3 : Nat) : Int) = some (tM c) := atI_nat rfl
    exact SB.cons (ST.no (ET.to (EW.et (EW.or (k1 := false) (ET.to (ET.not (ET.val (EV.isTuple (EV.nm 0) W.b.isinstance W.b.tuple))) rfl) (fun _ => EW.or (k1 := false) (ET.to (ET.cm (EV.len (EV.nm 0) rfl W.b.len) EV.int CS.ltI) rfl) (fun _ => EW.or1 (ET.to (ET.not (ET.val (EV.isStr (EV.ix (EV.nm 0) EV.int x0) W.b.isinstance W.b.str))) rfl)) (fun z => nomatch z)) (fun z => nomatch z))) rfl) SB.nil) (SB.cons (ST.no (ET.to (ET.cm (EV.ix (EV.nm 0) EV.int x0) EV.str CS.eqS) (by decide)) SB.nil) (SB.cons (ST.no (ET.to (ET.cm (EV.ix (EV.nm 0) EV.int x0) EV.str CS.eqS) (by decide)) SB.nil) (SB.stop (ST.yes (ET.to (ET.cm (EV.ix (EV.nm 0) EV.int x0) EV.str CS.eqS) (by decide)) (SB.cons (ST.no (ET.to (EW.et (EW.or (k1 := false) (ET.to (ET.cm (EV.len (EV.nm 0) rfl W.b.len) EV.int CS.neI) rfl) (fun _ => EW.or (k1 := false) (ET.to (ET.not (ET.val (ev_mat W ha (EV.ix (EV.nm 0) EV.int x1)))) rfl) (fun _ => EW.or (k1 := false) (ET.to (ET.not (ET.val (ev_mat W hb (EV.ix (EV.nm 0) EV.int x2)))) rfl) (fun _ => EW.or1 (ET.to (ET.not (ET.val (ev_mat W hc (EV.ix (EV.nm 0) EV.int x3)))) rfl)) (fun z => nomatch z)) (fun z => nomatch z)) (fun z => nomatch z))) rfl) SB.nil) (SB.one (ST.ret (EV.c3 (ok_law_sums W) (EV.ix (EV.nm 0) EV.int x1) (EV.ix (EV.nm 0) EV.int x2) (EV.ix (EV.nm 0) EV.int x3) ⟨a, b, c, ha, hb, hc, hm.2 (CL.product ha hb hc).claim _ _ _ rfl, rfl, rfl, rfl, rfl⟩))))))))
  | @same a b ha hb =>
    have x0 : ixD (.tup [.str "same", tM a, tM b]) ((0 : Nat) : Int) = some (.str "same") := atI_nat rfl
    have x1 : ixD (.tup [.str "same", tM a, tM b]) ((1 : Nat) : Int) = some (tM a) := atI_nat rfl
    have x2 : ixD (.tup [.str "same", tM a, tM b]) ((2 : Nat) : Int) = some (tM b) := atI_nat rfl
    exact SB.cons (ST.no (ET.to (EW.et (EW.or (k1 := false) (ET.to (ET.not (ET.val (EV.isTuple (EV.nm 0) W.b.isinstance W.b.tuple))) rfl) (fun _ => EW.or (k1 := false) (ET.to (ET.cm (EV.len (EV.nm 0) rfl W.b.len) EV.int CS.ltI) rfl) (fun _ => EW.or1 (ET.to (ET.not (ET.val (EV.isStr (EV.ix (EV.nm 0) EV.int x0) W.b.isinstance W.b.str))) rfl)) (fun z => nomatch z)) (fun z => nomatch z))) rfl) SB.nil) (SB.cons (ST.no (ET.to (ET.cm (EV.ix (EV.nm 0) EV.int x0) EV.str CS.eqS) (by decide)) SB.nil) (SB.stop (ST.yes (ET.to (ET.cm (EV.ix (EV.nm 0) EV.int x0) EV.str CS.eqS) (by decide)) (SB.one (ST.ret (EV.and (k1 := true) (EV.to (o' := .dat (.bl true)) (EV.cm (EV.len (EV.nm 0) rfl W.b.len) EV.int CS.eqI) rfl) (fun _ => EV.and (k1 := true) (ev_mat W ha (EV.ix (EV.nm 0) EV.int x1)) (fun _ => EV.and (k1 := true) (ev_mat W hb (EV.ix (EV.nm 0) EV.int x2)) (fun _ => EV.and1 (EV.cm (EV.ix (EV.nm 0) EV.int x1) (EV.ix (EV.nm 0) EV.int x2) CS.eqM)) (fun z => nomatch z)) (fun z => nomatch z)) (fun z => nomatch z)))))))
  | @divides k m hk hw =>
    have x0 : ixD (.tup [.str "divides", .int k, tM m]) ((0 : Nat) : Int) = some (.str "divides") := atI_nat rfl
    have x1 : ixD (.tup [.str "divides", .int k, tM m]) ((1 : Nat) : Int) = some (.int k) := atI_nat rfl
    have x2 : ixD (.tup [.str "divides", .int k, tM m]) ((2 : Nat) : Int) = some (tM m) := atI_nat rfl
    exact SB.cons (ST.no (ET.to (EW.et (EW.or (k1 := false) (ET.to (ET.not (ET.val (EV.isTuple (EV.nm 0) W.b.isinstance W.b.tuple))) rfl) (fun _ => EW.or (k1 := false) (ET.to (ET.cm (EV.len (EV.nm 0) rfl W.b.len) EV.int CS.ltI) rfl) (fun _ => EW.or1 (ET.to (ET.not (ET.val (EV.isStr (EV.ix (EV.nm 0) EV.int x0) W.b.isinstance W.b.str))) rfl)) (fun z => nomatch z)) (fun z => nomatch z))) rfl) SB.nil) (SB.cons (ST.no (ET.to (ET.cm (EV.ix (EV.nm 0) EV.int x0) EV.str CS.eqS) (by decide)) SB.nil) (SB.cons (ST.no (ET.to (ET.cm (EV.ix (EV.nm 0) EV.int x0) EV.str CS.eqS) (by decide)) SB.nil) (SB.cons (ST.no (ET.to (ET.cm (EV.ix (EV.nm 0) EV.int x0) EV.str CS.eqS) (by decide)) SB.nil) (SB.cons (ST.no (ET.to (EW.et (EW.or (k1 := false) (ET.to (ET.cm (EV.len (EV.nm 0) rfl W.b.len) EV.int CS.neI) rfl) (fun _ => EW.or1 (ET.to (ET.cm (EV.ix (EV.nm 0) EV.int x0) (EV.tup (ds := (["divides", "not divides", "least", "less"] : List Str).map D.str) (EA.cons EV.str (EA.cons EV.str (EA.cons EV.str (EA.cons EV.str EA.nil)))) (by decide)) CS.notInSt) (by decide))) (fun z => nomatch z))) rfl) SB.nil) (SB.cons (ST.no (ET.to (EW.et (EW.or (k1 := false) (k2 := false) (ET.to (ET.cm (EV.ix (EV.nm 0) EV.int x0) EV.str CS.eqS) (by decide)) (fun _ => EW.or1 (ET.to (ET.cm (EV.ix (EV.nm 0) EV.int x0) EV.str CS.eqS) (by decide))) (fun z => nomatch z))) rfl) SB.nil) (SB.one (ST.ret (EV.and (k1 := true) (EV.to (o' := .dat (.bl true)) (EV.c1 (ok_law_number W) (EV.ix (EV.nm 0) EV.int x1) (by exact rfl)) rfl) (fun _ => EV.and (k1 := true) (EV.to (o' := .dat (.bl true)) (EV.cm (EV.ix (EV.nm 0) EV.int x1) EV.int CS.geI) (by rw [decide_eq_true hk])) (fun _ => EV.and (k1 := true) (ev_mat W hw (EV.ix (EV.nm 0) EV.int x2)) (fun _ => EV.and1 (EV.c1 (ok_law_each W) (EV.nm 0) ⟨_, .divides hk hw, rfl⟩)) (fun z => nomatch z)) (fun z => nomatch z)) (fun z => nomatch z)))))))))
  | @notdiv k m hk hw =>
    have x0 : ixD (.tup [.str "not divides", .int k, tM m]) ((0 : Nat) : Int) = some (.str "not divides") := atI_nat rfl
    have x1 : ixD (.tup [.str "not divides", .int k, tM m]) ((1 : Nat) : Int) = some (.int k) := atI_nat rfl
    have x2 : ixD (.tup [.str "not divides", .int k, tM m]) ((2 : Nat) : Int) = some (tM m) := atI_nat rfl
    exact SB.cons (ST.no (ET.to (EW.et (EW.or (k1 := false) (ET.to (ET.not (ET.val (EV.isTuple (EV.nm 0) W.b.isinstance W.b.tuple))) rfl) (fun _ => EW.or (k1 := false) (ET.to (ET.cm (EV.len (EV.nm 0) rfl W.b.len) EV.int CS.ltI) rfl) (fun _ => EW.or1 (ET.to (ET.not (ET.val (EV.isStr (EV.ix (EV.nm 0) EV.int x0) W.b.isinstance W.b.str))) rfl)) (fun z => nomatch z)) (fun z => nomatch z))) rfl) SB.nil) (SB.cons (ST.no (ET.to (ET.cm (EV.ix (EV.nm 0) EV.int x0) EV.str CS.eqS) (by decide)) SB.nil) (SB.cons (ST.no (ET.to (ET.cm (EV.ix (EV.nm 0) EV.int x0) EV.str CS.eqS) (by decide)) SB.nil) (SB.cons (ST.no (ET.to (ET.cm (EV.ix (EV.nm 0) EV.int x0) EV.str CS.eqS) (by decide)) SB.nil) (SB.cons (ST.no (ET.to (EW.et (EW.or (k1 := false) (ET.to (ET.cm (EV.len (EV.nm 0) rfl W.b.len) EV.int CS.neI) rfl) (fun _ => EW.or1 (ET.to (ET.cm (EV.ix (EV.nm 0) EV.int x0) (EV.tup (ds := (["divides", "not divides", "least", "less"] : List Str).map D.str) (EA.cons EV.str (EA.cons EV.str (EA.cons EV.str (EA.cons EV.str EA.nil)))) (by decide)) CS.notInSt) (by decide))) (fun z => nomatch z))) rfl) SB.nil) (SB.cons (ST.no (ET.to (EW.et (EW.or (k1 := false) (k2 := false) (ET.to (ET.cm (EV.ix (EV.nm 0) EV.int x0) EV.str CS.eqS) (by decide)) (fun _ => EW.or1 (ET.to (ET.cm (EV.ix (EV.nm 0) EV.int x0) EV.str CS.eqS) (by decide))) (fun z => nomatch z))) rfl) SB.nil) (SB.one (ST.ret (EV.and (k1 := true) (EV.to (o' := .dat (.bl true)) (EV.c1 (ok_law_number W) (EV.ix (EV.nm 0) EV.int x1) (by exact rfl)) rfl) (fun _ => EV.and (k1 := true) (EV.to (o' := .dat (.bl true)) (EV.cm (EV.ix (EV.nm 0) EV.int x1) EV.int CS.geI) (by rw [decide_eq_true hk])) (fun _ => EV.and (k1 := true) (ev_mat W hw (EV.ix (EV.nm 0) EV.int x2)) (fun _ => EV.and1 (EV.c1 (ok_law_each W) (EV.nm 0) ⟨_, .notdiv hk hw, rfl⟩)) (fun z => nomatch z)) (fun z => nomatch z)) (fun z => nomatch z)))))))))
  | @least k m hw =>
    have x0 : ixD (.tup [.str "least", tM m, .int k]) ((0 : Nat) : Int) = some (.str "least") := atI_nat rfl
    have x1 : ixD (.tup [.str "least", tM m, .int k]) ((1 : Nat) : Int) = some (tM m) := atI_nat rfl
    have x2 : ixD (.tup [.str "least", tM m, .int k]) ((2 : Nat) : Int) = some (.int k) := atI_nat rfl
    exact SB.cons (ST.no (ET.to (EW.et (EW.or (k1 := false) (ET.to (ET.not (ET.val (EV.isTuple (EV.nm 0) W.b.isinstance W.b.tuple))) rfl) (fun _ => EW.or (k1 := false) (ET.to (ET.cm (EV.len (EV.nm 0) rfl W.b.len) EV.int CS.ltI) rfl) (fun _ => EW.or1 (ET.to (ET.not (ET.val (EV.isStr (EV.ix (EV.nm 0) EV.int x0) W.b.isinstance W.b.str))) rfl)) (fun z => nomatch z)) (fun z => nomatch z))) rfl) SB.nil) (SB.cons (ST.no (ET.to (ET.cm (EV.ix (EV.nm 0) EV.int x0) EV.str CS.eqS) (by decide)) SB.nil) (SB.cons (ST.no (ET.to (ET.cm (EV.ix (EV.nm 0) EV.int x0) EV.str CS.eqS) (by decide)) SB.nil) (SB.cons (ST.no (ET.to (ET.cm (EV.ix (EV.nm 0) EV.int x0) EV.str CS.eqS) (by decide)) SB.nil) (SB.cons (ST.no (ET.to (EW.et (EW.or (k1 := false) (ET.to (ET.cm (EV.len (EV.nm 0) rfl W.b.len) EV.int CS.neI) rfl) (fun _ => EW.or1 (ET.to (ET.cm (EV.ix (EV.nm 0) EV.int x0) (EV.tup (ds := (["divides", "not divides", "least", "less"] : List Str).map D.str) (EA.cons EV.str (EA.cons EV.str (EA.cons EV.str (EA.cons EV.str EA.nil)))) (by decide)) CS.notInSt) (by decide))) (fun z => nomatch z))) rfl) SB.nil) (SB.stop (ST.yes (ET.to (EW.et (EW.or (k1 := true) (k2 := true) (ET.to (ET.cm (EV.ix (EV.nm 0) EV.int x0) EV.str CS.eqS) (by decide)) (fun z => nomatch z) (fun _ => rfl))) rfl) (SB.one (ST.ret (EV.and (k1 := true) (ev_mat W hw (EV.ix (EV.nm 0) EV.int x1)) (fun _ => EV.and (k1 := true) (EV.to (o' := .dat (.bl true)) (EV.c1 (ok_law_number W) (EV.ix (EV.nm 0) EV.int x2) (by exact rfl)) rfl) (fun _ => EV.and1 (EV.c1 (ok_law_each W) (EV.nm 0) ⟨_, .least hw, rfl⟩)) (fun z => nomatch z)) (fun z => nomatch z))))))))))
  | @less k m hw =>
    have x0 : ixD (.tup [.str "less", tM m, .int k]) ((0 : Nat) : Int) = some (.str "less") := atI_nat rfl
    have x1 : ixD (.tup [.str "less", tM m, .int k]) ((1 : Nat) : Int) = some (tM m) := atI_nat rfl
    have x2 : ixD (.tup [.str "less", tM m, .int k]) ((2 : Nat) : Int) = some (.int k) := atI_nat rfl
    exact SB.cons (ST.no (ET.to (EW.et (EW.or (k1 := false) (ET.to (ET.not (ET.val (EV.isTuple (EV.nm 0) W.b.isinstance W.b.tuple))) rfl) (fun _ => EW.or (k1 := false) (ET.to (ET.cm (EV.len (EV.nm 0) rfl W.b.len) EV.int CS.ltI) rfl) (fun _ => EW.or1 (ET.to (ET.not (ET.val (EV.isStr (EV.ix (EV.nm 0) EV.int x0) W.b.isinstance W.b.str))) rfl)) (fun z => nomatch z)) (fun z => nomatch z))) rfl) SB.nil) (SB.cons (ST.no (ET.to (ET.cm (EV.ix (EV.nm 0) EV.int x0) EV.str CS.eqS) (by decide)) SB.nil) (SB.cons (ST.no (ET.to (ET.cm (EV.ix (EV.nm 0) EV.int x0) EV.str CS.eqS) (by decide)) SB.nil) (SB.cons (ST.no (ET.to (ET.cm (EV.ix (EV.nm 0) EV.int x0) EV.str CS.eqS) (by decide)) SB.nil) (SB.cons (ST.no (ET.to (EW.et (EW.or (k1 := false) (ET.to (ET.cm (EV.len (EV.nm 0) rfl W.b.len) EV.int CS.neI) rfl) (fun _ => EW.or1 (ET.to (ET.cm (EV.ix (EV.nm 0) EV.int x0) (EV.tup (ds := (["divides", "not divides", "least", "less"] : List Str).map D.str) (EA.cons EV.str (EA.cons EV.str (EA.cons EV.str (EA.cons EV.str EA.nil)))) (by decide)) CS.notInSt) (by decide))) (fun z => nomatch z))) rfl) SB.nil) (SB.stop (ST.yes (ET.to (EW.et (EW.or (k1 := false) (k2 := true) (ET.to (ET.cm (EV.ix (EV.nm 0) EV.int x0) EV.str CS.eqS) (by decide)) (fun _ => EW.or1 (ET.to (ET.cm (EV.ix (EV.nm 0) EV.int x0) EV.str CS.eqS) (by decide))) (fun z => nomatch z))) rfl) (SB.one (ST.ret (EV.and (k1 := true) (ev_mat W hw (EV.ix (EV.nm 0) EV.int x1)) (fun _ => EV.and (k1 := true) (EV.to (o' := .dat (.bl true)) (EV.c1 (ok_law_number W) (EV.ix (EV.nm 0) EV.int x2) (by exact rfl)) rfl) (fun _ => EV.and1 (EV.c1 (ok_law_each W) (EV.nm 0) ⟨_, .less hw, rfl⟩)) (fun z => nomatch z)) (fun z => nomatch z))))))))))
  | @echelon m hw =>
    have x0 : ixD (.tup [.str "echelon", tM m]) ((0 : Nat) : Int) = some (.str "echelon") := atI_nat rfl
    have x1 : ixD (.tup [.str "echelon", tM m]) ((1 : Nat) : Int) = some (tM m) := atI_nat rfl
    exact SB.cons (ST.no (ET.to (EW.et (EW.or (k1 := false) (ET.to (ET.not (ET.val (EV.isTuple (EV.nm 0) W.b.isinstance W.b.tuple))) rfl) (fun _ => EW.or (k1 := false) (ET.to (ET.cm (EV.len (EV.nm 0) rfl W.b.len) EV.int CS.ltI) rfl) (fun _ => EW.or1 (ET.to (ET.not (ET.val (EV.isStr (EV.ix (EV.nm 0) EV.int x0) W.b.isinstance W.b.str))) rfl)) (fun z => nomatch z)) (fun z => nomatch z))) rfl) SB.nil) (SB.stop (ST.yes (ET.to (ET.cm (EV.ix (EV.nm 0) EV.int x0) EV.str CS.eqS) (by decide)) (SB.one (ST.ret (EV.and (k1 := true) (EV.to (o' := .dat (.bl true)) (EV.cm (EV.len (EV.nm 0) rfl W.b.len) EV.int CS.eqI) rfl) (fun _ => EV.and (k1 := true) (ev_mat W hw (EV.ix (EV.nm 0) EV.int x1)) (fun _ => EV.and1 (EV.c1 (ok_law_stairs W) (EV.ix (EV.nm 0) EV.int x1) ⟨m, hw, rfl, rfl⟩)) (fun z => nomatch z)) (fun z => nomatch z))))))
  have x0 : ixD (.tup [.str "same", tM a, tM b]) ((0 : Nat) : Int) = some (.str "same") := atI_nat rfl
  have x1 : ixD (.tup [.str "same", tM a, tM b]) ((1 : Nat) : Int) = some (tM a) := atI_nat rfl
  have x2 : ixD (.tup [.str "same", tM a, tM b]) ((2 : Nat) : Int) = some (tM b) := atI_nat rfl
  have e : goodB (.tup [.str "same", tM a, tM b]) = false := good_no (by
    show (true && (true && (wideB (tM a) && (wideB (tM b) && true)))) = false
    rw [wide65 hn]
    cases wideB (tM a) <;> rfl)
  rw [e]
  exact SB.cons (ST.no (ET.to (EW.et (EW.or (k1 := false) (ET.to (ET.not (ET.val (EV.isTuple (EV.nm 0) W.b.isinstance W.b.tuple))) rfl) (fun _ => EW.or (k1 := false) (ET.to (ET.cm (EV.len (EV.nm 0) rfl W.b.len) EV.int CS.ltI) rfl) (fun _ => EW.or1 (ET.to (ET.not (ET.val (EV.isStr (EV.ix (EV.nm 0) EV.int x0) W.b.isinstance W.b.str))) rfl)) (fun z => nomatch z)) (fun z => nomatch z))) rfl) SB.nil) (SB.cons (ST.no (ET.to (ET.cm (EV.ix (EV.nm 0) EV.int x0) EV.str CS.eqS) (by decide)) SB.nil) (SB.stop (ST.yes (ET.to (ET.cm (EV.ix (EV.nm 0) EV.int x0) EV.str CS.eqS) (by decide)) (SB.one (ST.ret (EV.to (EV.and (k1 := true) (EV.to (o' := .dat (.bl true)) (EV.cm (EV.len (EV.nm 0) rfl W.b.len) EV.int CS.eqI) rfl) (fun _ => EV.and (k1 := true) (ev_mat W ha (EV.ix (EV.nm 0) EV.int x1)) (fun _ => EV.and (k1 := false) (k2 := true) (EV.to (EV.c1 (ok_law_matrix W) (EV.ix (EV.nm 0) EV.int x2) ⟨b, hb, rfl, rfl⟩) (by rw [decide_eq_false hn])) (fun z => nomatch z) (fun _ => rfl)) (fun z => nomatch z)) (fun z => nomatch z)) rfl))))))
end
section
variable {g : Pg}
theorem Dm.mild {d : D} (h : Dm d) : Mild d := by
  rcases h with ⟨_, h⟩ | ⟨a, b, ha, hb, hn, rfl⟩
  · exact h
  · exact ⟨fun ds e => by cases e; show 3 < 100000; decide, fun _ a b c e => by simp at e⟩
def Row (ds : List D) : Prop := ds.length < 100000 ∧ ∀ c ∈ ds, Dm c
theorem Row.milds {ds : List D} (h : Row ds) : Milds (.tup ds) := fun ds' e => by
  cases e
  exact ⟨h.1, fun c hc => (h.2 c hc).mild⟩
theorem ok_law_wrong (W : Wd g) : FN g "_law_wrong" 4 (P1 fun d r => ∃ ds, d = .tup ds ∧ Row ds ∧ r = wrongD d) := by
  refine FN.mk1 W.t_law_wrong c_law_wrong (fun _ _ _ _ _ _ us hl => match us, hl with | [_], _ => rfl) (fun d r h => ?_)
  obtain ⟨v, rfl, hv, rfl⟩ := h
  have hl := hv.1
  have test : ∀ (i : Nat) (hi : i < v.length), ET (mkC g n_law_wrong s_law_wrong 3) (ifOf ((bodyOf ((defBody s_law_wrong).getD 1 (.Pass ⟨0, 0, 0, 0⟩))).getD 0 (.Pass ⟨0, 0, 0, 0⟩))) [.dat (.tup v), .dat (.int (i : Int))] [] (!goodB v[i]) [] := fun i hi =>
    ET.not (ET.val (EV.c1 (ok_law_claim W) (EV.ix (EV.nm 0) (EV.nm 1) (show ixD (.tup v) ((i : Nat) : Int) = some v[i] from atI_nat (List.getElem?_eq_getElem hi))) ⟨hv.2 _ (List.getElem_mem hi), rfl⟩))
  have isT : ST (mkC g n_law_wrong s_law_wrong 3) ((defBody s_law_wrong).getD 0 (.Pass ⟨0, 0, 0, 0⟩)) [.dat (.tup v), .no] [] (.nx [.dat (.tup v), .no] []) := ST.no (ET.to (ET.not (ET.val (EV.isTuple (EV.nm 0) W.b.isinstance W.b.tuple))) rfl) SB.nil
  show SB _ _ _ _ (.rt (.dat (optN (v.findIdx? fun c => !goodB c))) [])
  cases hf : v.findIdx? fun c => !goodB c with
  | none =>
    have hz : ∀ i (hi : i < v.length), (!goodB v[i]) = false := fun i hi => List.findIdx?_eq_none_iff.mp hf v[i] (List.getElem_mem hi)
    refine SB.cons isT (SB.cons (ST.forN 1 (n := ((v.length : Nat) : Int).toNat) (E_ := fun _ => [.dat (.tup v), .no]) (M_ := fun _ => []) (EI.rng1 (EV.len (EV.nm 0) rfl W.b.len) W.b.range (by omega)) Fg.refl rfl (fun _ _ => True.intro) c_law_wrong.nd (fun i hi => ?_)) (SB.one (ST.ret EV.non)))
    rw [atI0_eq]
    exact ⟨_, Fg.cons (Fg.no Fg.nil), SB.one (ST.no (ET.to (test i hi) (hz i hi)) SB.nil)⟩
  | some p =>
    obtain ⟨hp, h1, h2⟩ := List.findIdx?_eq_some_iff_getElem.mp hf
    have hz : ∀ i (hi : i < p), (!goodB (v[i]'(by omega))) = false := fun i hi => by
      have := h2 i hi
      simpa using this
    refine SB.cons isT (SB.stop (ST.for (m := p) (n := ((v.length : Nat) : Int).toNat) (E_ := fun _ => [.dat (.tup v), .no]) (M_ := fun _ => []) (EI.rng1 (EV.len (EV.nm 0) rfl W.b.len) W.b.range (by omega)) Fg.refl rfl (by omega) (fun _ _ => True.intro) (fun i hi => ⟨_, _, [.dat (.tup v), .dat (.int (i : Int))], EG.nm 1 c_law_wrong.nd, Fg.cons (Fg.no Fg.nil), .inl ?_⟩) (.inr ⟨by omega, _, _, EG.nm 1 c_law_wrong.nd, .inl ⟨_, _, ?_, rfl⟩⟩)))
    · rw [atI0_eq]
      exact SB.one (ST.no (ET.to (test i (by omega)) (hz i hi)) SB.nil)
    · rw [atI0_eq]
      exact SB.one (ST.yes (ET.to (test p hp) h1) (SB.one (ST.ret (EV.nm 1))))
theorem ok_law_wrong_one (W : Wd g) : FN g "_law_wrong_one" 5 (P1 fun d r => ∃ ds, d = .tup ds ∧ Row ds ∧ r = .tup [.bl (wrongD d).isN, wrongD d]) := by
  refine FN.mk1 W.t_law_wrong_one c_law_wrong_one (fun _ _ _ _ _ _ us hl => match us, hl with | [_], _ => rfl) (fun d r h => ?_)
  obtain ⟨v, rfl, hv, rfl⟩ := h
  exact SB.cons (ST.set 1 (EV.c1 (ok_law_wrong W) (EV.nm 0) ⟨v, rfl, hv, rfl⟩) c_law_wrong_one.nd) (SB.one (ST.ret (EV.tup (ds := [.bl (wrongD (.tup v)).isN, wrongD (.tup v)]) (EA.cons (EV.isN (EV.nm 1)) (EA.cons (EV.nm 1) EA.nil)) (by show 2 ≤ 100000; decide))))
theorem fit_wrong {ds : List D} : Fit 0 (wrongD (.tup ds)) := by
  show Fit 0 (optN _)
  cases ds.findIdx? fun c => !goodB c <;> exact True.intro
theorem ok_law_asked (W : Wd g) : FN g "_law_asked" 7 (P1 fun d r => ∃ ds, d = .tup ds ∧ Row ds ∧ r = .bl true) := by
  refine FN.mk1 W.t_law_asked c_law_asked (fun _ _ _ _ _ _ us hl => match us, hl with | [_], _ => rfl) (fun d r h => ?_)
  obtain ⟨v, rfl, hv, rfl⟩ := h
  have x0 : ixD (.tup [.bl (wrongD (.tup v)).isN, wrongD (.tup v)]) ((0 : Nat) : Int) = some (.bl (wrongD (.tup v)).isN) := atI_nat rfl
  have x1 : ixD (.tup [.bl (wrongD (.tup v)).isN, wrongD (.tup v)]) ((1 : Nat) : Int) = some (wrongD (.tup v)) := atI_nat rfl
  exact SB.cons (ST.set 1 (EV.c1 (ok_law_wrong_one W) (EV.nm 0) ⟨v, rfl, hv, rfl⟩) c_law_asked.nd) (SB.cons (ST.no (ET.to (ET.not (ET.val (EV.c2 (ok_law_like W 0) (EV.c1 (ok_takes W) (EV.nm 0) ⟨hv.milds, rfl⟩) (EV.ix (EV.nm 1) EV.int x0) ⟨rfl, True.intro, rfl⟩))) rfl) SB.nil) (SB.one (ST.ret (EV.c2 (ok_law_like W 0) (EV.c1 (ok_first_wrong W) (EV.nm 0) ⟨hv.milds, rfl⟩) (EV.ix (EV.nm 1) EV.int x1) ⟨rfl, fit_wrong, rfl⟩))))
end
section
variable {g : Pg}
def Sm (x : Int) : Prop := x.natAbs < 2 ^ 200
def Bn (x : Int) : Prop := x.natAbs < 2 ^ 250
instance (x : Int) : Decidable (Sm x) := inferInstanceAs (Decidable (x.natAbs < 2 ^ 200))
def SmM (a : List (List Int)) : Prop := ∀ r ∈ a, ∀ x ∈ r, Sm x
def BnM (a : List (List Int)) : Prop := ∀ r ∈ a, ∀ x ∈ r, Bn x
theorem Sm.bn {x : Int} (h : Sm x) : Bn x := Nat.lt_of_lt_of_le h (Nat.pow_le_pow_right (by decide) (by decide))
theorem SmM.bn {a : List (List Int)} (h : SmM a) : BnM a := fun r hr x hx => (h r hr x hx).bn
theorem BnM.ok {a b : List (List Int)} (ha : BnM a) (hb : BnM b) : MulOk a b := fun r hr x hx q hq y hy => mul_ok (ha r hr x hx) (hb q hq y hy)
abbrev LB : List Int := [0, 1, -1, 2, -3, 5, 12, -40, 997, (10 : Int) ^ (40 : Int).toNat + 7, -((10 : Int) ^ (18 : Int).toNat), 0]
theorem LB_sm : ∀ x ∈ LB, Sm x := by decide +kernel
theorem big_run (W : Wd g) (ns : List Int) : ∃ x ns', Sm x ∧ Run g n_law_big s_law_big 1 [.adr 0] [rowC ns] (.dat (.int x)) [rowC ns'] := by
  have T := ok_law_take W
  refine ⟨pick LB (tk ns 12), dl 1 ns, LB_sm _ (pick_mem (tk_pos (by decide))), Nat.le_refl _, True.intro, lowR, [], ?_⟩
  exact SB.one (ST.ret (EV.ix (EV.lst (ds := LB.map D.int) (EA.cons EV.int (EA.cons EV.int (EA.cons (EV.neg EV.int) (EA.cons EV.int (EA.cons (EV.neg EV.int) (EA.cons EV.int (EA.cons EV.int (EA.cons (EV.neg EV.int) (EA.cons EV.int (EA.cons (EV.add (EV.pow EV.int EV.int ⟨by decide, by decide, by decide⟩) EV.int) (EA.cons (EV.neg (EV.pow EV.int EV.int ⟨by decide, by decide, by decide⟩)) (EA.cons EV.int EA.nil)))))))))))) (by decide)) (ev_tk (ns := ns) T (EV.nm 0) EV.int rfl (by decide)) (pick_at (tk_pos (by decide)))))
theorem choose2 {α β γ : Type} {P : α → β → γ → Prop} (h : ∀ a, ∃ b c, P a b c) : ∃ (f : α → β) (k : α → γ), ∀ a, P a (f a) (k a) := ⟨fun a => Classical.choose (h a), fun a => Classical.choose (Classical.choose_spec (h a)), fun a => Classical.choose_spec (Classical.choose_spec (h a))⟩
theorem fn_big (W : Wd g) : FN g "_law_big" 2 (fun os M o M' => os.length = 1 ∧ Run g n_law_big s_law_big 1 os M o M') := FN.run (ps := ["row"]) W.t_law_big c_law_big (fun _ _ _ _ _ _ us hl => match us, hl with | [_], _ => rfl)
theorem ok_law_rows (W : Wd g) : FN g "_law_rows" 1 (P1 fun d r => ∃ m, m.length < 100000 ∧ (∀ q ∈ m, q.length < 100000) ∧ d = lM m ∧ r = tM m) := by
  refine FN.mk1 W.t_law_rows c_law_rows (fun _ _ _ _ _ _ us hl => match us, hl with | [_], _ => rfl) (fun d r h => ?_)
  obtain ⟨m, hl, hl2, rfl, rfl⟩ := h
  exact SB.one (ST.ret (EV.tuple (LC.ev (LC.lM 1 (xs := m) (f := lV) (g := tV) (own := [("line", 1)]) (by rfl) c_law_rows.nd rfl (EV.nm 0) rfl (Nat.le_refl _) OkM.refl hl (fun q hq M => EV.tuple (EV.nm 1) rfl W.b.tuple))) rfl W.b.tuple))
theorem rowsM_app {A : List (List Int)} {r : List Int} : (some (((A.map lV).map O.dat) ++ [O.dat (lV r)]) : Option (List O)) = some (((A ++ [r]).map lV).map O.dat) := by
  rw [List.map_append, List.map_append]
  rfl
theorem rep1 {x : D} (k : Nat) : (List.replicate k [x]).flatten = List.replicate k x := by
  induction k with
  | zero => rfl
  | succ k ih => rw [List.replicate_succ, List.flatten_cons, ih, List.replicate_succ]; rfl
theorem repI {x : Int} (k : Nat) : (List.replicate k [D.int x]).flatten = (List.replicate k x).map D.int := by
  rw [rep1, List.map_replicate]
/-- drawn tables -/
structure Tb (n m : Nat) (A : List (List Int)) : Prop where
  l : A.length = n
  w : ∀ r ∈ A, r.length = m
  num : SmM A
def itn (f : List Int → List Int) (s : List Int) : Nat → List Int
  | 0 => s
  | i + 1 => f (itn f s i)
theorem table_run (W : Wd g) {n m : Nat} (hn : 1 ≤ n ∧ n ≤ 64) (hm : 1 ≤ m ∧ m ≤ 64) (ns : List Int) : ∃ A ns', Tb n m A ∧ Run g n_law_table s_law_table 2 [.adr 0, .dat (.int (n : Int)), .dat (.int (m : Int))] [rowC ns] (.dat (lM A)) [rowC ns'] := by
  have T := ok_law_take W
  obtain ⟨bx, bn, hbr⟩ := choose2 (big_run W)
  have hb := fun ns => (hbr ns).1
  have hr := fun ns => (hbr ns).2
  obtain ⟨f, f0, fI, fP⟩ := chain (S := List Int × List (List Int)) (n := n) (I := fun i s => s.2.length = i ∧ (∀ r ∈ s.2, r.length = m) ∧ SmM s.2)
    (P := fun i s s' => SB (mkC g n_law_table s_law_table 2) (bodyOf ((defBody s_law_table).getD 1 (.Pass ⟨0, 0, 0, 0⟩))) [.adr 0, .dat (.int (n : Int)), .dat (.int (m : Int)), .adr 1, .dat (.int (i : Int)), .no] [rowC s.1, some ((s.2.map lV).map .dat)] (.nx [.adr 0, .dat (.int (n : Int)), .dat (.int (m : Int)), .adr 1, .dat (.int (i : Int)), .no] [rowC s'.1, some ((s'.2.map lV).map .dat)])) (fun i hi s hs => by
      obtain ⟨k1, A⟩ := s
      obtain ⟨h1, h2, h3⟩ := hs
      simp only at h1 h2 h3
      have push : ∀ (r : List Int), r.length = m → (∀ x ∈ r, Sm x) → (A ++ [r]).length = i + 1 ∧ (∀ q ∈ A ++ [r], q.length = m) ∧ SmM (A ++ [r]) := fun r p1 p2 => by
        refine ⟨by rw [List.length_append, h1]; rfl, fun q hq => ?_, fun q hq => ?_⟩
        · rcases List.mem_append.mp hq with hq | hq
          · exact h2 q hq
          · rw [List.mem_singleton.mp hq]; exact p1
        · rcases List.mem_append.mp hq with hq | hq
          · exact h3 q hq
          · rw [List.mem_singleton.mp hq]; exact p2
      have tst : ET (mkC g n_law_table s_law_table 2) (ifOf ((bodyOf ((defBody s_law_table).getD 1 (.Pass ⟨0, 0, 0, 0⟩))).getD 0 (.Pass ⟨0, 0, 0, 0⟩))) [.adr 0, .dat (.int (n : Int)), .dat (.int (m : Int)), .adr 1, .dat (.int (i : Int)), .no] [rowC k1, some ((A.map lV).map .dat)] (decide (tk k1 5 = 0)) [rowC (dl 1 k1), some ((A.map lV).map .dat)] := ET.cm (ev_tk (ns := k1) T (EV.nm 0) EV.int rfl (by decide)) EV.int CS.eqI
      by_cases h0 : tk k1 5 = 0
      · refine ⟨(dl 1 k1, A ++ [List.replicate m 0]), SB.one (ST.yes (ET.to tst (decide_eq_true h0)) (SB.one (ST.to (ST.exp (EV.append (n := 1) (ps := (A.map lV).map O.dat) (M1 := [rowC (dl 1 k1), some ((A.map lV).map .dat)]) (M2 := [rowC (dl 1 k1), some ((A.map lV).map .dat)]) (EV.nm 3) (EV.to (o' := .dat (lV (List.replicate m 0))) (EV.bin (EV.lst (ds := [.int 0]) (EA.cons EV.int EA.nil) (by decide)) (EV.nm 2) (BS.mulL (by omega) (by omega) (by decide))) ?_) rfl rfl (by rw [List.length_map, List.length_map]; omega))) ?_))), push _ List.length_replicate (fun x hx => by rw [List.eq_of_mem_replicate hx]; decide)⟩
        · show O.dat (.lst _) = O.dat (.lst _)
          rw [repI]
          rfl
        · show Out.nx _ [rowC _, some _] = _
          rw [rowsM_app]
      · let r := (List.range m).map fun i => bx (itn bn (dl 1 k1) i)
        refine ⟨(itn bn (dl 1 k1) m, A ++ [r]), SB.one (ST.no (ET.to tst (decide_eq_false h0)) (SB.one (ST.to (ST.exp (EV.append (n := 1) (ps := (A.map lV).map O.dat) (M1 := [rowC (dl 1 k1), some ((A.map lV).map .dat)]) (M2 := [rowC (itn bn (dl 1 k1) m), some ((A.map lV).map .dat)]) (EV.nm 3) (EV.to (o' := .dat (lV r)) (LC.ev (LC.lRS 5 (j := ((m : Nat) : Int)) (M1 := [rowC (dl 1 k1), some ((A.map lV).map .dat)]) (v := fun i => .int (bx (itn bn (dl 1 k1) i))) (M_ := fun i => [rowC (itn bn (dl 1 k1) i), some ((A.map lV).map .dat)]) (own := [("j", 5)]) (by rfl) c_law_table.nd rfl (EV.nm 2) W.b.range rfl (fun _ _ => rfl) (Nat.le_refl _) (OkM.dat (OkM.dat OkM.nil)) (by omega) (fun i hi c => EV.call1' (n := 0) (ds := []) (cs := (itn bn (dl 1 k1) i).map D.int) (cs' := (bn (itn bn (dl 1 k1) i)).map D.int) (fn_big W) (EA.cons (EV.nm 0) EA.nil) rfl ⟨rfl, hr _⟩))) ?_) rfl rfl (by rw [List.length_map, List.length_map]; omega))) ?_))), push _ (by show ((List.range m).map _).length = m; rw [List.length_map, List.length_range]) (fun x hx => ?_)⟩
        · show O.dat (.lst _) = O.dat (.lst (((List.range m).map _).map _))
          rw [List.map_map]
          rfl
        · show Out.nx _ [rowC _, some _] = _
          rw [rowsM_app]
        · obtain ⟨j, _, rfl⟩ := List.mem_map.mp hx
          exact hb _) (ns, []) ⟨rfl, fun r hr => by simp at hr, fun r hr => by simp at hr⟩
  obtain ⟨a1, a2, a3⟩ := fI n (Nat.le_refl n)
  refine ⟨(f n).2, (f n).1, ⟨a1, a2, a3⟩, Nat.le_refl _, True.intro, lowR, [none], SB.cons (ST.set 3 (EV.cel EA.nil (by decide)) c_law_table.nd) (SB.cons (ST.forN 4 (n := ((n : Nat) : Int).toNat) (E_ := fun _ => [.adr 0, .dat (.int (n : Int)), .dat (.int (m : Int)), .adr 1, .no, .no]) (M_ := fun i => [rowC (f i).1, some (((f i).2.map lV).map .dat)]) (EI.rng1 (EV.nm 1) W.b.range (by omega)) Fg.refl (by rw [f0]; rfl) (fun _ _ => True.intro) c_law_table.nd (fun i hi => ⟨_, ?_, by rw [atI0_eq]; exact fP i hi⟩)) (SB.fz (jj := 3) (nn := 1) (ds := (f n).2.map lV) rfl rfl (SB.one (ST.ret (EV.nm 3)))))⟩
  exact Fg.cons (Fg.cons (Fg.cons (Fg.cons (Fg.no Fg.refl))))
theorem fn_table (W : Wd g) : FN g "_law_table" 3 (fun os M o M' => os.length = 3 ∧ Run g n_law_table s_law_table 2 os M o M') := FN.run (ps := ["row", "n", "m"]) W.t_law_table c_law_table (fun _ _ _ _ _ _ us hl => match us, hl with | [_, _, _], _ => rfl)
end
section
variable {g : Pg}
theorem wd_of {X : List (List Int)} {n m : Nat} (hl : X.length = n) (hw : ∀ r ∈ X, r.length = m) (hn : 1 ≤ n) : wd X = m := by
  cases X with
  | nil => simp at hl; omega
  | cons r q => exact hw r List.mem_cons_self
theorem w64_of {X : List (List Int)} {n m : Nat} (hl : X.length = n) (hw : ∀ r ∈ X, r.length = m) (hn : 1 ≤ n ∧ n ≤ 64) (hm : 1 ≤ m ∧ m ≤ 64) : W64 X := by
  have hwd := wd_of hl hw hn.1
  exact ⟨by omega, by omega, fun r hr => by rw [hwd]; exact hw r hr⟩
theorem Tb.w64 {n m : Nat} {A : List (List Int)} (h : Tb n m A) (hn : 1 ≤ n ∧ n ≤ 64) (hm : 1 ≤ m ∧ m ≤ 64) : W64 A := w64_of h.l h.w hn hm
theorem mild3 {w : Str} {x y : D} : Mild (.tup [.str w, x, y]) := ⟨fun ds e => by cases e; show 3 < 100000; decide, fun _ a b c e => by simp at e⟩
theorem mild2 {w : Str} {x : D} : Mild (.tup [.str w, x]) := ⟨fun ds e => by cases e; show 2 < 100000; decide, fun _ a b c e => by simp at e⟩
theorem mildP {a b c : List (List Int)} (h : MulOk a b) : Mild (.tup [.str "product", tM a, tM b, tM c]) := ⟨fun ds e => by cases e; show 4 < 100000; decide, fun _ a' b' c' e => by
  simp at e
  rw [← tM_inj (congrArg D.tup e.1), ← tM_inj (congrArg D.tup e.2.1)]
  exact h⟩
/-- the claims that hold -/
inductive Gd : D → Prop
  | product {a b c : List (List Int)} (ha : W64 a) (hb : W64 b) (hc : W64 c) (sa : SmM a) (sb : SmM b) (h : prodB a b c = true) : Gd (.tup [.str "product", tM a, tM b, tM c])
  | same {a : List (List Int)} (ha : W64 a) : Gd (.tup [.str "same", tM a, tM a])
  | divides {k : Int} {m : List (List Int)} (hk : 0 ≤ k) (hm : W64 m) (h : m.flatten.all (partB k) = true) : Gd (.tup [.str "divides", .int k, tM m])
  | notdiv {k : Int} {m : List (List Int)} (hk : 0 ≤ k) (hm : W64 m) (h : m.flatten.all (partB k) = false) : Gd (.tup [.str "not divides", .int k, tM m])
  | least {k : Int} {m : List (List Int)} (hm : W64 m) (h : (m.flatten.all fun x => decide (k ≤ x)) = true) : Gd (.tup [.str "least", tM m, .int k])
  | less {k : Int} {m : List (List Int)} (hm : W64 m) (h : (m.flatten.all fun x => decide (x < k)) = true) : Gd (.tup [.str "less", tM m, .int k])
  | echelon {m : List (List Int)} (hm : W64 m) (h : echB m = true) : Gd (.tup [.str "echelon", tM m])
theorem Gd.cl {d : D} (h : Gd d) : CL d true := by
  cases h with
  | product ha hb hc sa sb h => exact h ▸ CL.product ha hb hc
  | same ha =>
    have := CL.same ha ha
    rwa [decide_eq_true rfl] at this
  | divides hk hm h => exact h ▸ CL.divides hk hm
  | notdiv hk hm h =>
    have := CL.notdiv hk hm
    rwa [h] at this
  | least hm h => exact h ▸ CL.least hm
  | less hm h => exact h ▸ CL.less hm
  | echelon hm h => exact h ▸ CL.echelon hm
theorem Gd.mild {d : D} (h : Gd d) : Mild d := by
  cases h with
  | product ha hb hc sa sb h => exact mildP (BnM.ok sa.bn sb.bn)
  | same ha => exact mild3
  | divides hk hm h => exact mild3
  | notdiv hk hm h => exact mild3
  | least hm h => exact mild3
  | less hm h => exact mild3
  | echelon hm h => exact mild2
theorem Gd.dm {d : D} (h : Gd d) : Dm d := .inl ⟨⟨_, h.cl⟩, h.mild⟩
theorem Gd.good {d : D} (h : Gd d) : goodB d = true := good_of h.cl
theorem row_next {R : List (List Int)} {i : Nat} (hi : i < R.length) {r : List Int} (hr : R.getD i [] = r) : (some (((R.take i).map lV).map O.dat ++ [O.dat (lV r)]) : Option (List O)) = some (((R.take (i + 1)).map lV).map O.dat) := by
  rw [List.take_succ_eq_append_getElem hi, List.map_append, List.map_append, ← hr, List.getD_eq_getElem?_getD, List.getElem?_eq_getElem hi]
  rfl
theorem product_run (W : Wd g) {A B : List (List Int)} {n m w : Nat} (hA : Tb n m A) (hB : Tb m w B) (hn : 1 ≤ n ∧ n ≤ 64) (hm : 1 ≤ m ∧ m ≤ 64) (hw : 1 ≤ w ∧ w ≤ 64) (ns : List Int) :
    Gd (.tup [.str "product", tM A, tM B, tM (mulM A B)]) ∧ Run g n_law_product s_law_product 1 [.adr 0, .dat (lM A), .dat (lM B)] [rowC ns] (.dat (.tup [.str "product", tM A, tM B, tM (mulM A B)])) [rowC ns] := by
  have wA := hA.w64 hn hm
  have wB := hB.w64 hm hw
  have hAl := hA.l
  have hBl := hB.l
  have hwB : wd B = w := wd_of hB.l hB.w hm.1
  have hwA : wd A = m := wd_of hA.l hA.w hn.1
  have hrow : ∀ r ∈ A, r.length = B.length := fun r hr => by rw [hA.w r hr, hB.l]
  have hP := mul_by (a := A) (b := B) hrow
  have hPl : (mulM A B).length = A.length := by rw [hP, List.length_map, List.length_range]
  have hPw : ∀ r ∈ mulM A B, r.length = w := fun r hr => by
    rw [hP] at hr
    obtain ⟨i, _, rfl⟩ := List.mem_map.mp hr
    rw [List.length_map, List.length_range, hwB]
  have hPg : ∀ i, i < A.length → (mulM A B).getD i [] = (List.range (wd B)).map fun j => ent A B i j := fun i hi => by
    rw [hP, getD_map (a0 := 0) (by rw [List.length_range]; exact hi), List.getD_eq_getElem?_getD, List.getElem?_range hi]
    rfl
  have wP : W64 (mulM A B) := w64_of (hPl.trans hA.l) hPw hn hw
  have ok : MulOk A B := BnM.ok hA.num.bn hB.num.bn
  refine ⟨.product wA wB wP hA.num hB.num ?_, ?_⟩
  · unfold prodB
    rw [decide_eq_true (show (wd A : Int) = (B.length : Int) by omega), decide_eq_true rfl]
    rfl
  have hAle : (A.map lV).length = A.length := List.length_map _
  have h0 : ixD (lM B) ((0 : Nat) : Int) = some (lV (B.getD 0 [])) := ix_lM (by omega)
  have hB0 : (B.getD 0 []).length = wd B := by rw [hwB]; exact hB.w _ (mem_getD (by omega))
  refine ⟨Nat.le_refl _, True.intro, lowR, [none], SB.cons (ST.set 3 (EV.cel EA.nil (by decide)) c_law_product.nd) (SB.cons (ST.forN 4 (n := A.length) (E_ := fun _ => [.adr 0, .dat (lM A), .dat (lM B), .adr 1, .no, .no, .no]) (M_ := fun i => [rowC ns, some ((((mulM A B).take i).map lV).map .dat)]) (hAle ▸ EI.lst (EV.nm 1)) Fg.refl rfl (fun _ _ => True.intro) c_law_product.nd (fun i hi => ?_)) (SB.fz (jj := 3) (nn := 1) (ds := (mulM A B).map lV) rfl ?_ (SB.one (ST.ret (EV.tup (ds := [.str "product", tM A, tM B, tM (mulM A B)]) (EA.cons EV.str (EA.cons (EV.c1 (ok_law_rows W) (EV.nm 1) ⟨A, by omega, fun q hq => by rw [hA.w q hq]; omega, rfl, rfl⟩) (EA.cons (EV.c1 (ok_law_rows W) (EV.nm 2) ⟨B, by omega, fun q hq => by rw [hB.w q hq]; omega, rfl, rfl⟩) (EA.cons (EV.c1 (ok_law_rows W) (EV.nm 3) ⟨mulM A B, by omega, fun q hq => by rw [hPw q hq]; omega, rfl, rfl⟩) EA.nil)))) (by show 4 ≤ 100000; decide))))))⟩
  · have hiP : i < (mulM A B).length := by omega
    have hat : atO (A.map lV) i = .dat (lV (A.getD i [])) := by
      rw [atO_map hi, List.getD_eq_getElem?_getD, List.getElem?_eq_getElem hi]
      rfl
    rw [hat]
    have hri : (A.getD i []).length = B.length := hrow _ (mem_getD hi)
    refine ⟨[.adr 0, .dat (lM A), .dat (lM B), .adr 1, .dat (lV (A.getD i [])), .no, .no], ?_, SB.one (ST.to (ST.exp (EV.append (n := 1) (ps := (((mulM A B).take i).map lV).map O.dat) (EV.nm 3) (EV.to (o' := .dat (lV ((mulM A B).getD i []))) (LC.ev (LC.lR 5 (j := ((wd B : Nat) : Int)) (g := fun j => .int (ent A B i j)) (own := [("j", 5)]) (by rfl) c_law_product.nd rfl (EV.to (EV.len (EV.ix (EV.nm 2) EV.int h0) len_lV W.b.len) (by rw [hB0])) W.b.range (Nat.le_refl _) OkM.refl (by omega) (fun j hj M => EV.sum (ns := (List.range B.length).map fun k => (A.getD i []).getD k 0 * (B.getD k []).getD j 0) ?_ W.b.sum))) ?_) rfl rfl (by rw [List.length_map, List.length_map, List.length_take]; omega))) ?_)⟩
    · exact Fg.cons (Fg.cons (Fg.cons (Fg.cons (Fg.no Fg.refl))))
    · rw [List.map_map]
      exact LC.ev (LC.lR 6 (j := ((B.length : Nat) : Int)) (g := fun k => .int ((A.getD i []).getD k 0 * (B.getD k []).getD j 0)) (own := [("k", 6)]) (by rfl) c_law_product.nd rfl (EV.len (EV.nm 2) len_lM W.b.len) W.b.range (Nat.le_refl _) OkM.refl (by omega) (fun k hk M => EV.mul (EV.ix (EV.nm 4) (EV.nm 6) (ix_lV (by omega))) (EV.ix (EV.ix (EV.nm 2) (EV.nm 6) (ix_lM (by omega))) (EV.nm 5) (ix_lV (by rw [hB.w _ (mem_getD (by omega))]; omega))) (ok _ (mem_getD hi) _ (mem_getD (by omega)) _ (mem_getD (by omega)) _ (mem_getD (by rw [hB.w _ (mem_getD (by omega))]; omega)))))
    · show O.dat (.lst _) = O.dat (.lst _)
      rw [hPg i hi, List.map_map]
      rfl
    · show Out.nx _ [rowC ns, some _] = _
      rw [row_next hiP rfl]
      rfl
  · show some (some ((((mulM A B).take A.length).map lV).map O.dat)) = _
    rw [← hPl, List.take_length]
theorem fn_product (W : Wd g) : FN g "_law_product" 2 (fun os M o M' => os.length = 3 ∧ Run g n_law_product s_law_product 1 os M o M') := FN.run (ps := ["row", "a", "b"]) W.t_law_product c_law_product (fun _ _ _ _ _ _ us hl => match us, hl with | [_, _, _], _ => rfl)
end
section
variable {g : Pg}
theorem lead_of {L : List Int} {a : Nat} (ha : a < L.length) (hz : ∀ j, j < a → L.getD j 0 = 0) (hn : L.getD a 0 ≠ 0) : leadF L = some a := by
  refine List.findIdx?_eq_some_iff_getElem.mpr ⟨ha, ?_, fun j hj => ?_⟩
  · rw [List.getD_eq_getElem?_getD, List.getElem?_eq_getElem ha] at hn
    have hn' : L[a] ≠ 0 := hn
    simp [hn']
  · have := hz j hj
    rw [List.getD_eq_getElem?_getD, List.getElem?_eq_getElem (by omega)] at this
    have h' : L[j] = 0 := this
    simp [h']
theorem lead_no {L : List Int} (hz : ∀ j, j < L.length → L.getD j 0 = 0) : leadF L = none := by
  refine List.findIdx?_eq_none_iff.mpr fun x hx => ?_
  obtain ⟨j, hj⟩ := List.getElem?_of_mem hx
  have hlt := (List.getElem?_eq_some_iff.mp hj).1
  have := hz j hlt
  rw [List.getD_eq_getElem?_getD, hj] at this
  have h' : x = 0 := this
  simp [h']
theorem lasts_app {A : List (List Int)} {L : List Int} : ∀ i, i ≤ A.length → lasts (A ++ [L]) i = lasts A i
  | 0, _ => rfl
  | i + 1, h => by
    show (stp (lasts (A ++ [L]) i) ((A ++ [L]).getD i [])).getD 0 = (stp (lasts A i) (A.getD i [])).getD 0
    rw [lasts_app i (by omega), List.getD_eq_getElem?_getD, List.getD_eq_getElem?_getD, List.getElem?_append_left (by omega)]
theorem getD_app {A : List (List Int)} {L : List Int} : (A ++ [L]).getD A.length [] = L := by
  rw [List.getD_eq_getElem?_getD, List.getElem?_append_right (Nat.le_refl _), Nat.sub_self]
  rfl
theorem ech_app {A : List (List Int)} {L : List Int} (h : echB A = true) (hs : (stp (lasts A A.length) L).isSome = true) : echB (A ++ [L]) = true := by
  unfold echB at h ⊢
  rw [List.all_eq_true] at h ⊢
  intro i hi
  have hi := List.mem_range.mp hi
  rw [List.length_append, List.length_singleton] at hi
  by_cases hlt : i < A.length
  · rw [lasts_app i (by omega), List.getD_eq_getElem?_getD, List.getElem?_append_left hlt, ← List.getD_eq_getElem?_getD]
    exact h i (List.mem_range.mpr hlt)
  · have e : i = A.length := by omega
    subst e
    rw [lasts_app _ (Nat.le_refl _), getD_app]
    exact hs
/-- the row filled from the place a on -/
def fl (bx : List Int → Int) (bn : List Int → List Int) (a : Nat) (k L : List Int) : Nat → List Int × List Int
  | 0 => (k, L)
  | t + 1 => (bn (fl bx bn a k L t).1, (fl bx bn a k L t).2.set (a + t) (bx (fl bx bn a k L t).1))
theorem fl_len {bx : List Int → Int} {bn : List Int → List Int} {a : Nat} {k L : List Int} : ∀ t, (fl bx bn a k L t).2.length = L.length
  | 0 => rfl
  | t + 1 => by
    show (List.set _ _ _).length = _
    rw [List.length_set, fl_len t]
theorem fl_low {bx : List Int → Int} {bn : List Int → List Int} {a : Nat} {k L : List Int} {j : Nat} (hj : j < a) : ∀ t, (fl bx bn a k L t).2.getD j 0 = L.getD j 0
  | 0 => rfl
  | t + 1 => by
    show (List.set _ _ _).getD j 0 = _
    rw [List.getD_eq_getElem?_getD, List.getElem?_set_ne (by omega), ← List.getD_eq_getElem?_getD, fl_low hj t]
theorem fl_sm {bx : List Int → Int} {bn : List Int → List Int} (hb : ∀ k, Sm (bx k)) {a : Nat} {k L : List Int} (hL : ∀ x ∈ L, Sm x) : ∀ t, ∀ x ∈ (fl bx bn a k L t).2, Sm x
  | 0 => hL
  | t + 1 => fun x hx => by
    rcases List.mem_or_eq_of_mem_set hx with hx | rfl
    · exact fl_sm hb hL t x hx
    · exact hb _
theorem rep_get {x : Option (List O)} {r t : Option (List O)} (i : Nat) : (r :: t :: (List.replicate i (none : Option (List O)) ++ [x]))[i + 2]? = some x := by
  show (List.replicate i none ++ [x])[i]? = _
  rw [List.getElem?_append_right (by rw [List.length_replicate]; exact Nat.le_refl _), List.length_replicate, Nat.sub_self]
  rfl
theorem rep_set {x y : Option (List O)} {r t : Option (List O)} (i : Nat) : (r :: t :: (List.replicate i (none : Option (List O)) ++ [x])).set (i + 2) y = r :: t :: (List.replicate i none ++ [y]) := by
  show r :: t :: (List.replicate i none ++ [x]).set i y = _
  rw [List.set_append_right _ _ (by rw [List.length_replicate]; exact Nat.le_refl _), List.length_replicate, Nat.sub_self]
  rfl
structure Stc (m : Nat) (A : List (List Int)) (at' : Int) : Prop where
  w : ∀ r ∈ A, r.length = m
  ech : echB A = true
  le : lasts A A.length ≤ at'
  lo : -1 ≤ at'
  up : at' ≤ 2 * A.length
theorem Stc.next {m : Nat} {A : List (List Int)} {p : Int} {a : Nat} {L : List Int} (h : Stc m A p) (hp : p < a) (hp2 : (a : Int) ≤ p + 2) (hl : L.length = m) (hz : ∀ j, j < a → j < m → L.getD j 0 = 0) (hn : a < m → L.getD a 0 ≠ 0) : Stc m (A ++ [L]) a := by
  have hle := h.le
  have key : ∃ v, stp (lasts A A.length) L = some v ∧ v ≤ a := by
    unfold stp
    by_cases ham : a < m
    · rw [lead_of (a := a) (by omega) (fun j hj => hz j hj (by omega)) (hn ham)]
      refine ⟨a, ?_, Int.le_refl _⟩
      show (if (a : Int) ≤ lasts A A.length then none else some (a : Int)) = _
      rw [if_neg (by omega)]
    · rw [lead_no (fun j hj => hz j (by omega) (by omega))]
      exact ⟨L.length, rfl, by omega⟩
  obtain ⟨v, hv, hva⟩ := key
  refine ⟨fun r hr => ?_, ech_app h.ech (by rw [hv]; rfl), ?_, by omega, by have := h.up; rw [List.length_append, List.length_singleton]; omega⟩
  · rcases List.mem_append.mp hr with hr | hr
    · exact h.w r hr
    · rw [List.mem_singleton.mp hr]; exact hl
  · rw [List.length_append, List.length_singleton]
    show (stp (lasts (A ++ [L]) A.length) ((A ++ [L]).getD A.length [])).getD 0 ≤ a
    rw [lasts_app _ (Nat.le_refl _), getD_app, hv]
    exact hva
abbrev L2c : List Int := [1, -2]
theorem staircase_run (W : Wd g) {n m : Nat} (hn : 1 ≤ n ∧ n ≤ 64) (hm : 1 ≤ m ∧ m ≤ 64) (ns : List Int) : ∃ c ns', Gd c ∧ Run g n_law_staircase s_law_staircase 2 [.adr 0, .dat (.int (n : Int)), .dat (.int (m : Int))] [rowC ns] (.dat c) [rowC ns'] := by
  have T := ok_law_take W
  obtain ⟨bx, bn, hbr⟩ := choose2 (big_run W)
  have hb := fun ns => (hbr ns).1
  have hr := fun ns => (hbr ns).2
  let E := fun (p : Int) (oi ol oj : O) => ([.adr 0, .dat (.int (n : Int)), .dat (.int (m : Int)), .adr 1, .dat (.int p), oi, ol, oj] : List O)
  let Me := fun (k : List Int) (A : List (List Int)) => (rowC k :: some ((A.map lV).map O.dat) :: List.replicate A.length none : Mem)
  obtain ⟨f, f0, fI, fP⟩ := chain (S := List Int × List (List Int) × Int) (n := n) (I := fun i s => s.2.1.length = i ∧ Stc m s.2.1 s.2.2)
    (P := fun i s s' => ∃ E2, Fg E2 (E s'.2.2 .no .no .no) ∧ SB (mkC g n_law_staircase s_law_staircase 2) (bodyOf ((defBody s_law_staircase).getD 2 (.Pass ⟨0, 0, 0, 0⟩))) (E s.2.2 (.dat (.int (i : Int))) .no .no) (Me s.1 s.2.1) (.nx E2 (Me s'.1 s'.2.1))) (fun i hi s hs => by
      obtain ⟨k, A, p⟩ := s
      obtain ⟨h1, h2⟩ := hs
      simp only at h1 h2
      have hlo := h2.lo
      obtain ⟨a, ha⟩ : ∃ a : Nat, p + 1 + (if tk k 3 = 0 then 1 else 0) = (a : Int) := ⟨(p + 1 + (if tk k 3 = 0 then 1 else 0)).toNat, by split <;> omega⟩
      have hup := h2.up
      have hpa : p < a := by split at ha <;> omega
      have hpa2 : (a : Int) ≤ p + 2 := by split at ha <;> omega
      let z := List.replicate m (0 : Int)
      have hzl : z.length = m := List.length_replicate
      let u := fl bx bn a (dl 1 k) z (m - a)
      have hul : u.2.length = m := (fl_len _).trans hzl
      have hulow : ∀ j, j < a → j < m → u.2.getD j 0 = 0 := fun j hj hjm => by
        show (fl bx bn a (dl 1 k) z (m - a)).2.getD j 0 = 0
        rw [fl_low hj, List.getD_eq_getElem?_getD, List.getElem?_replicate, if_pos hjm]
        rfl
      -- the line drawn
      have hset1 : ST (mkC g n_law_staircase s_law_staircase 2) ((bodyOf ((defBody s_law_staircase).getD 2 (.Pass ⟨0, 0, 0, 0⟩))).getD 0 (.Pass ⟨0, 0, 0, 0⟩)) (E p (.dat (.int (i : Int))) .no .no) (Me k A) (.nx (E a (.dat (.int (i : Int))) .no .no) (Me (dl 1 k) A)) := by
        refine ST.set 4 (EV.to (EV.add (M1 := Me k A) (EV.add (EV.nm 4) EV.int) (EV.intB (EV.cm (ev_tk (ns := k) T (EV.nm 0) EV.int rfl (by decide)) EV.int CS.eqI) W.b.int)) ?_) c_law_staircase.nd
        rw [← ha]
        by_cases h0 : tk k 3 = 0
        · rw [if_pos h0, if_pos (decide_eq_true h0)]
        · rw [if_neg h0, if_neg (by rw [decide_eq_false h0]; exact Bool.false_ne_true)]
      have hset2 : ST (mkC g n_law_staircase s_law_staircase 2) ((bodyOf ((defBody s_law_staircase).getD 2 (.Pass ⟨0, 0, 0, 0⟩))).getD 1 (.Pass ⟨0, 0, 0, 0⟩)) (E a (.dat (.int (i : Int))) .no .no) (Me (dl 1 k) A) (.nx (E a (.dat (.int (i : Int))) (.adr (i + 2)) .no) (rowC (dl 1 k) :: some ((A.map lV).map O.dat) :: (List.replicate i none ++ [rowC z]))) := by
        refine ST.to (ST.set 6 (EV.bin (EV.lst (ds := [.int 0]) (EA.cons EV.int EA.nil) (by decide)) (EV.nm 2) (BS.mulLN (by omega) (by omega) (by decide))) c_law_staircase.nd) ?_
        have e1 : (Me (dl 1 k) A).length = i + 2 := by
          show (List.replicate A.length none).length + 1 + 1 = _
          rw [List.length_replicate, h1]
        rw [e1, repI]
        show Out.nx _ (rowC (dl 1 k) :: some ((A.map lV).map O.dat) :: (List.replicate A.length none ++ _)) = _
        rw [h1]
        rfl
      have hfill : ST (mkC g n_law_staircase s_law_staircase 2) ((bodyOf ((defBody s_law_staircase).getD 2 (.Pass ⟨0, 0, 0, 0⟩))).getD 2 (.Pass ⟨0, 0, 0, 0⟩)) (E a (.dat (.int (i : Int))) (.adr (i + 2)) .no) (rowC (dl 1 k) :: some ((A.map lV).map O.dat) :: (List.replicate i none ++ [rowC z])) (.nx (E a (.dat (.int (i : Int))) (.adr (i + 2)) .no) (rowC u.1 :: some ((A.map lV).map O.dat) :: (List.replicate i none ++ [rowC u.2]))) := by
        have e : m - a = ((m : Int) - (a : Int)).toNat := by omega
        show ST _ _ _ _ (.nx _ (rowC (fl bx bn a (dl 1 k) z (m - a)).1 :: some ((A.map lV).map O.dat) :: (List.replicate i none ++ [rowC (fl bx bn a (dl 1 k) z (m - a)).2])))
        rw [e]
        refine ST.forN 7 (n := ((m : Int) - (a : Int)).toNat) (E_ := fun _ => E a (.dat (.int (i : Int))) (.adr (i + 2)) .no) (M_ := fun t => rowC (fl bx bn a (dl 1 k) z t).1 :: some ((A.map lV).map O.dat) :: (List.replicate i none ++ [rowC (fl bx bn a (dl 1 k) z t).2])) (EI.rng2 (EV.nm 4) (EV.nm 2) W.b.range (by omega) (by omega)) Fg.refl rfl (fun _ _ => True.intro) c_law_staircase.nd (fun t ht => ?_)
        refine ⟨E a (.dat (.int (i : Int))) (.adr (i + 2)) (.dat (.int ((a : Int) + (t : Int)))), ?_, SB.one (ST.to (ST.asg (EV.call1' (n := 0) (ds := []) (cs := (fl bx bn a (dl 1 k) z t).1.map D.int) (cs' := (bn (fl bx bn a (dl 1 k) z t).1).map D.int) (fn_big W) (EA.cons (EV.nm 0) EA.nil) rfl ⟨rfl, hr _⟩) (EG.sub (n := i + 2) (jj := a + t) (ps := ((fl bx bn a (dl 1 k) z t).2.map D.int).map O.dat) (EV.nm 6) (EV.nm 7) (rep_get i) (by rw [row_len, fl_len, hzl]; exact ixN_of (k := a + t) (by omega)))) ?_)⟩
        · exact Fg.cons (Fg.cons (Fg.cons (Fg.cons (Fg.cons (Fg.cons (Fg.cons (Fg.no Fg.nil)))))))
        · show Out.nx _ ((rowC (bn (fl bx bn a (dl 1 k) z t).1) :: some ((A.map lV).map O.dat) :: (List.replicate i none ++ [rowC (fl bx bn a (dl 1 k) z t).2])).set (i + 2) _) = _
          rw [rep_set, row_set]
          rfl
      have tail : ∀ (k' v : List Int), v.length = m → (∀ j, j < a → j < m → v.getD j 0 = 0) → (a < m → v.getD a 0 ≠ 0) → SB (mkC g n_law_staircase s_law_staircase 2) ((bodyOf ((defBody s_law_staircase).getD 2 (.Pass ⟨0, 0, 0, 0⟩))).drop 4) (E a (.dat (.int (i : Int))) (.adr (i + 2)) .no) (rowC k' :: some ((A.map lV).map O.dat) :: (List.replicate i none ++ [rowC v])) (.nx (E a (.dat (.int (i : Int))) (.dat (lV v)) .no) (Me k' (A ++ [v]))) := fun k' v _ _ _ => by
        refine SB.fz (jj := 6) (nn := i + 2) (ds := v.map D.int) rfl (rep_get i) ?_
        rw [rep_set]
        refine SB.one (ST.to (ST.exp (EV.append (n := 1) (ps := (A.map lV).map O.dat) (EV.nm 3) (EV.nm 6) rfl rfl (by rw [List.length_map, List.length_map]; omega))) ?_)
        show Out.nx _ (rowC k' :: some (_ ++ [O.dat (lV v)]) :: _) = _
        rw [rowsM_app]
        show _ = Out.nx _ (rowC k' :: some (((A ++ [v]).map lV).map O.dat) :: List.replicate (A ++ [v]).length none)
        rw [List.length_append, List.length_singleton, h1, ← List.replicate_append_replicate]
        rfl
      by_cases ham : a < m
      · by_cases hz0 : u.2.getD a 0 = 0
        · let v := u.2.set a (pick L2c (tk u.1 2))
          have hvl : v.length = m := List.length_set.trans hul
          have hv0 : ∀ j, j < a → j < m → v.getD j 0 = 0 := fun j hj hjm => by
            show (u.2.set a _).getD j 0 = 0
            rw [List.getD_eq_getElem?_getD, List.getElem?_set_ne (by omega), ← List.getD_eq_getElem?_getD]
            exact hulow j hj hjm
          have hva : a < m → v.getD a 0 ≠ 0 := fun _ => by
            show (u.2.set a _).getD a 0 ≠ 0
            rw [List.getD_eq_getElem?_getD, List.getElem?_set_self (by omega)]
            have hA : ∀ x ∈ L2c, x ≠ 0 := by decide
            exact hA _ (pick_mem (tk_pos (by decide)))
          refine ⟨(dl 1 u.1, A ++ [v], (a : Int)), ⟨_, ?_, SB.cons hset1 (SB.cons hset2 (SB.cons hfill (SB.cons (E1 := E a (.dat (.int (i : Int))) (.adr (i + 2)) .no) (M1 := rowC (dl 1 u.1) :: some ((A.map lV).map O.dat) :: (List.replicate i none ++ [rowC v])) (ST.yes (M1 := rowC u.1 :: some ((A.map lV).map O.dat) :: (List.replicate i none ++ [rowC u.2])) (ET.to (EW.et (EW.and (k1 := true) (ET.to (ET.cm (EV.nm 4) (EV.nm 2) CS.ltI) (decide_eq_true (by omega))) (fun _ => EW.and1 (ET.to (ET.cm (EV.ixC (EV.nm 6) (EV.nm 4) (rep_get i) (row_at (by omega))) EV.int CS.eqI) (decide_eq_true hz0))) (fun z => nomatch z))) rfl) (SB.one (ST.to (ST.asg (EV.ix (EV.lst (ds := L2c.map D.int) (EA.cons EV.int (EA.cons (EV.neg EV.int) EA.nil)) (by decide)) (ev_tk (ns := u.1) T (EV.nm 0) EV.int rfl (by decide)) (pick_at (tk_pos (by decide)))) (EG.sub (n := i + 2) (jj := a) (ps := (u.2.map D.int).map O.dat) (EV.nm 6) (EV.nm 4) (rep_get i) (by rw [row_len, hul]; exact ixN_of ham))) ?_))) (tail _ v hvl hv0 hva))))⟩, by rw [List.length_append, h1]; rfl, h2.next hpa hpa2 hvl hv0 hva⟩
          · exact Fg.cons (Fg.cons (Fg.cons (Fg.cons (Fg.cons (Fg.no (Fg.no Fg.refl))))))
          · show Out.nx _ ((rowC (dl 1 u.1) :: some ((A.map lV).map O.dat) :: (List.replicate i none ++ [rowC u.2])).set (i + 2) _) = _
            rw [rep_set, row_set]
        · refine ⟨(u.1, A ++ [u.2], (a : Int)), ⟨_, ?_, SB.cons hset1 (SB.cons hset2 (SB.cons hfill (SB.cons (ST.no (M1 := rowC u.1 :: some ((A.map lV).map O.dat) :: (List.replicate i none ++ [rowC u.2])) (ET.to (EW.et (EW.and (k1 := true) (ET.to (ET.cm (EV.nm 4) (EV.nm 2) CS.ltI) (decide_eq_true (by omega))) (fun _ => EW.and1 (ET.to (ET.cm (EV.ixC (EV.nm 6) (EV.nm 4) (rep_get i) (row_at (by omega))) EV.int CS.eqI) (decide_eq_false hz0))) (fun z => nomatch z))) rfl) SB.nil) (tail _ u.2 hul hulow (fun _ => hz0)))))⟩, by rw [List.length_append, h1]; rfl, h2.next hpa hpa2 hul hulow (fun _ => hz0)⟩
          exact Fg.cons (Fg.cons (Fg.cons (Fg.cons (Fg.cons (Fg.no (Fg.no Fg.refl))))))
      · refine ⟨(u.1, A ++ [u.2], (a : Int)), ⟨_, ?_, SB.cons hset1 (SB.cons hset2 (SB.cons hfill (SB.cons (ST.no (M1 := rowC u.1 :: some ((A.map lV).map O.dat) :: (List.replicate i none ++ [rowC u.2])) (ET.to (EW.et (EW.and (k1 := false) (k2 := true) (ET.to (ET.cm (EV.nm 4) (EV.nm 2) CS.ltI) (decide_eq_false (by omega))) (fun z => nomatch z) (fun _ => rfl))) rfl) SB.nil) (tail _ u.2 hul hulow (fun h => absurd h ham)))))⟩, by rw [List.length_append, h1]; rfl, h2.next hpa hpa2 hul hulow (fun h => absurd h ham)⟩
        exact Fg.cons (Fg.cons (Fg.cons (Fg.cons (Fg.cons (Fg.no (Fg.no Fg.refl))))))) (dl 1 ns, [], tk ns 2 - 1) ⟨rfl, ⟨fun r hr => by simp at hr, rfl, by have := tk_pos (ns := ns) (b := 2) (by decide); show (-1 : Int) ≤ tk ns 2 - 1; omega, by have := tk_pos (ns := ns) (b := 2) (by decide); show (-1 : Int) ≤ tk ns 2 - 1; omega, by have := tk_pos (ns := ns) (b := 2) (by decide); show tk ns 2 - 1 ≤ 2 * (0 : Int); omega⟩⟩
  obtain ⟨a1, a2⟩ := fI n (Nat.le_refl n)
  refine ⟨.tup [.str "echelon", tM (f n).2.1], (f n).1, .echelon (w64_of a1 a2.w hn hm) a2.ech, Nat.le_refl _, True.intro, lowR, none :: List.replicate (f n).2.1.length none, SB.cons (ST.set 3 (EV.cel EA.nil (by decide)) c_law_staircase.nd) (SB.cons (E1 := E (tk ns 2 - 1) .no .no .no) (M1 := [rowC (dl 1 ns), some []]) (ST.set 4 (EV.sub (ev_tk (ns := ns) T (EV.nm 0) EV.int rfl (by decide)) EV.int) c_law_staircase.nd) (SB.cons (ST.forN 5 (n := ((n : Nat) : Int).toNat) (E_ := fun i => E (f i).2.2 .no .no .no) (M_ := fun i => Me (f i).1 (f i).2.1) (EI.rng1 (EV.nm 1) W.b.range (by omega)) ?_ (by rw [f0]; rfl) (fun _ _ => True.intro) c_law_staircase.nd (fun i hi => by rw [atI0_eq]; exact fP i hi)) (SB.fz (jj := 3) (nn := 1) (ds := (f n).2.1.map lV) rfl rfl (SB.one (ST.ret (EV.tup (ds := [.str "echelon", tM (f n).2.1]) (EA.cons EV.str (EA.cons (EV.c1 (ok_law_rows W) (EV.nm 3) ⟨(f n).2.1, by omega, fun q hq => by rw [a2.w q hq]; omega, rfl, rfl⟩) EA.nil)) (by show 2 ≤ 100000; decide)))))))⟩
  rw [f0]
  exact Fg.refl
theorem fn_staircase (W : Wd g) : FN g "_law_staircase" 3 (fun os M o M' => os.length = 3 ∧ Run g n_law_staircase s_law_staircase 2 os M o M') := FN.run (ps := ["row", "n", "m"]) W.t_law_staircase c_law_staircase (fun _ _ _ _ _ _ us hl => match us, hl with | [_, _, _], _ => rfl)
end
/-! ### cells of a matrix -/
section
variable {g : Pg}
def matC (b : Nat) (m : List (List Int)) : Mem := some ((List.range m.length).map fun i => .adr (b + 1 + i)) :: m.map rowC
theorem matC_len {b : Nat} {m : List (List Int)} : (matC b m).length = 1 + m.length := by
  unfold matC
  rw [List.length_cons, List.length_map]
  omega
theorem mat_top {pre post : Mem} {b : Nat} {m : List (List Int)} (h : pre.length = b) : (pre ++ matC b m ++ post)[b]? = some (some ((List.range m.length).map fun i => .adr (b + 1 + i))) := by
  rw [List.append_assoc, List.getElem?_append_right (by omega), h, Nat.sub_self]
  rfl
theorem mat_get {pre post : Mem} {b i : Nat} {m : List (List Int)} (h : pre.length = b) (hi : i < m.length) : (pre ++ matC b m ++ post)[b + 1 + i]? = some (rowC (m.getD i [])) := by
  rw [List.append_assoc, List.getElem?_append_right (by omega), h, show b + 1 + i - b = i + 1 by omega, List.getElem?_append_left (by rw [matC_len]; omega)]
  show (m.map rowC)[i]? = _
  rw [List.getElem?_map, List.getElem?_eq_getElem hi, List.getD_eq_getElem?_getD, List.getElem?_eq_getElem hi]
  rfl
theorem mat_set {pre post : Mem} {b i : Nat} {m : List (List Int)} {r : List Int} (h : pre.length = b) (hi : i < m.length) : (pre ++ matC b m ++ post).set (b + 1 + i) (rowC r) = pre ++ matC b (m.set i r) ++ post := by
  rw [List.append_assoc, List.set_append_right _ _ (by omega), h, show b + 1 + i - b = i + 1 by omega, List.set_append_left _ _ (by rw [matC_len]; omega), List.append_assoc]
  congr 2
  show _ :: (m.map rowC).set i (rowC r) = some ((List.range (m.set i r).length).map _) :: (m.set i r).map rowC
  rw [List.length_set, List.map_set]
theorem rows_view {M : Mem} : ∀ (m : List (List Int)) (k : Nat), (∀ i, i < m.length → M[k + i]? = some (rowC (m.getD i []))) → Views M ((List.range m.length).map fun i => .adr (k + i)) (m.map lV)
  | [], _, _ => .nil
  | r :: m, k, h => by
    rw [List.length_cons, List.range_succ_eq_map, List.map_cons, List.map_map, List.map_cons]
    refine .cons (.cel (h 0 (by simp)) (Views.ints _)) ?_
    have := rows_view m (k + 1) fun i hi => by
      have := h (i + 1) (by simpa using hi)
      rw [show k + 1 + i = k + (i + 1) by omega]
      exact this
    have e : ((fun i => O.adr (k + i)) ∘ Nat.succ) = fun i => O.adr (k + 1 + i) := by
      funext i
      show O.adr (k + (i + 1)) = _
      congr 1
      omega
    rw [e]
    exact this
theorem mat_view {pre post : Mem} {b : Nat} {m : List (List Int)} (h : pre.length = b) : View (pre ++ matC b m ++ post) (.adr b) (lM m) := .cel (mat_top h) (rows_view m (b + 1) fun i hi => mat_get h hi)
theorem row_view {M : Mem} {k : Nat} {v : List Int} (h : M[k]? = some (rowC v)) : View M (.adr k) (lV v) := .cel h (Views.ints _)
theorem mat_view' {pre : Mem} {b : Nat} {m : List (List Int)} (h : pre.length = b) : View (pre ++ matC b m) (.adr b) (lM m) := by
  have := mat_view (pre := pre) (post := []) (m := m) h
  rw [List.append_nil] at this
  exact this
theorem mat_app {pre : Mem} {m : List (List Int)} {r : List Int} : (pre ++ matC pre.length m ++ [rowC r]).set pre.length (some (((List.range m.length).map fun i => .adr (pre.length + 1 + i)) ++ [.adr (pre.length + 1 + m.length)])) = pre ++ matC pre.length (m ++ [r]) := by
  rw [List.append_assoc, List.set_append_right _ _ (Nat.le_refl _), Nat.sub_self]
  congr 1
  show some _ :: (m.map rowC ++ [rowC r]) = some ((List.range (m ++ [r]).length).map _) :: (m ++ [r]).map rowC
  rw [List.length_append, List.length_singleton, List.range_succ, List.map_append, List.map_append]
  rfl
theorem Views.set {M : Mem} {d : D} : ∀ {os : List O} {ds : List D} (i : Nat), Views M os ds → Views M (os.set i (.dat d)) (ds.set i d)
  | _, _, _, .nil => .nil
  | _, _, 0, .cons _ r => .cons (.dat _) r
  | _, _, i + 1, .cons h r => .cons h (Views.set i r)
section
variable {C : Cc} {E : List O} {M : Mem} {elt iter : Expr} {p : Pos} {x : Str} {scope : Scope} {own : List (Str × Nat)} {d : D}
/-- [elt for x in xs], each element a new cell of numbers -/
theorem LC.lNest {α : Type} (jx : Nat) {pre : Mem} {xs : List α} {f : α → D} (r : α → List Int) (ok : blkC C.N C.sc scope own = true) (nd : C.N.Nodup) (ho : own.map (·.2) = [jx]) (h : EV C iter E M (.dat d) pre) (hd : seqD d = some (xs.map f)) (hz : xs.length < 100000)
    (step : ∀ y ∈ xs, ∀ M, EV (C.blk scope) elt ((wipeE E [jx]).set jx (.dat (f y))) M (.adr M.length) (M ++ [rowC (r y)]))
    (hi : C.N[jx]? = some x := by rfl) (hx : Loc (C.blk scope).sc x := by first | exact Or.inl rfl | exact Or.inr rfl) (hf' : (C.blk scope).fn x = true ∨ (C.blk scope).sc.names.lookup x = some .local := by first | exact .inl rfl | exact .inr rfl)
    (hf : ∀ env x, foldedSetIterable iter env x = pure x := by intro _ _; rfl) : LC C elt (.Name x p) iter [] scope own E M (.adr pre.length) (pre ++ matC pre.length (xs.map r)) := by
  have key := LC.lX (C := C) (elt := elt) (p := p) (x := x) jx (xs := xs) (f := f) (M1 := pre) (fun k => pre ++ matC pre.length ((xs.take k).map r)) (fun k => (List.range k).map fun q => .adr (pre.length + 1 + q)) ok nd ho h hd rfl rfl (fun i hi' => by
    have hl : ((xs.take i).map r).length = i := by rw [List.length_map, List.length_take]; omega
    have hml : (pre ++ matC pre.length ((xs.take i).map r)).length = pre.length + 1 + i := by rw [List.length_append, matC_len, hl]; omega
    refine ⟨.adr (pre.length + 1 + i), pre ++ matC pre.length ((xs.take i).map r) ++ [rowC (r xs[i])], ?_, ?_, ?_, ?_, ?_⟩
    · rw [← hml]
      exact step _ (List.getElem_mem hi') _
    · rw [mat_top rfl, hl]
    · rw [List.length_map, List.length_range]; omega
    · have := mat_app (pre := pre) (m := (xs.take i).map r) (r := r xs[i])
      rw [hl] at this
      rw [this, List.take_succ_eq_append_getElem hi', List.map_append]
      rfl
    · rw [List.range_succ, List.map_append]
      rfl) hi hx hf' hf
  rw [List.take_length] at key
  exact key
/-- [elt for x in xs], pure elements, the list a cell -/
theorem LC.lMC {α : Type} (jx : Nat) {M1 : Mem} {xs : List α} {f g : α → D} (ok : blkC C.N C.sc scope own = true) (nd : C.N.Nodup) (ho : own.map (·.2) = [jx]) (h : EV C iter E M (.dat d) M1) (hd : seqD d = some (xs.map f)) (hz : xs.length < 100000)
    (step : ∀ y ∈ xs, ∀ M, EV (C.blk scope) elt ((wipeE E [jx]).set jx (.dat (f y))) M (.dat (g y)) M) (hi : C.N[jx]? = some x := by rfl) (hx : Loc (C.blk scope).sc x := by first | exact Or.inl rfl | exact Or.inr rfl) (hf' : (C.blk scope).fn x = true ∨ (C.blk scope).sc.names.lookup x = some .local := by first | exact .inl rfl | exact .inr rfl)
    (hf : ∀ env x, foldedSetIterable iter env x = pure x := by intro _ _; rfl) : LC C elt (.Name x p) iter [] scope own E M (.adr M1.length) (M1 ++ [some ((xs.map g).map .dat)]) := by
  have hlen : (xs.map f).length = xs.length := List.length_map _
  have key := LC.lPC (tg := .Name x p) (elt := elt) (ifs := []) (scope := scope) (own := own) (n := (xs.map f).length) (v := fun i => (xs.map g).getD i .non) (f := fun _ => true) ok nd (EI.seq h hd) (fun _ => True.intro) (by omega) (fun i hi' => by
    rw [hlen] at hi'
    refine ⟨_, fun M => EGv.nm jx nd (by rw [ho]; simp) hi hx hf', fun M => EP.nil, fun _ M => ?_⟩
    rw [ho, atO_map hi']
    have e : (xs.map g).getD i .non = g xs[i] := by
      rw [List.getD_eq_getElem?_getD, List.getElem?_map, List.getElem?_eq_getElem hi']
      rfl
    rw [e]
    exact step _ (List.getElem_mem hi') M) hf
  have e2 : ((List.range (xs.map f).length).filter fun _ => true).map (fun i => (xs.map g).getD i D.non) = xs.map g := by
    rw [List.filter_eq_self.mpr (fun _ _ => rfl), hlen, ← List.length_map g]
    exact range_getD _ _
  rw [e2] at key
  exact key
end
end
section
variable {g : Pg}
theorem exMin : ∀ l : List Int, l ≠ [] → ∃ m, m ∈ l ∧ ∀ y ∈ l, m ≤ y
  | [], h => absurd rfl h
  | [x], _ => ⟨x, by simp, fun y hy => by rw [List.mem_singleton.mp hy]; exact Int.le_refl _⟩
  | x :: y :: l, _ => by
    obtain ⟨m, h1, h2⟩ := exMin (y :: l) (by simp)
    by_cases h : x ≤ m
    · refine ⟨x, List.mem_cons_self, fun z hz => ?_⟩
      rcases List.mem_cons.mp hz with rfl | hz
      · exact Int.le_refl _
      · exact Int.le_trans h (h2 z hz)
    · refine ⟨m, List.mem_cons_of_mem _ h1, fun z hz => ?_⟩
      rcases List.mem_cons.mp hz with rfl | hz
      · omega
      · exact h2 z hz
theorem exMax : ∀ l : List Int, l ≠ [] → ∃ m, m ∈ l ∧ ∀ y ∈ l, y ≤ m
  | [], h => absurd rfl h
  | [x], _ => ⟨x, by simp, fun y hy => by rw [List.mem_singleton.mp hy]; exact Int.le_refl _⟩
  | x :: y :: l, _ => by
    obtain ⟨m, h1, h2⟩ := exMax (y :: l) (by simp)
    by_cases h : m ≤ x
    · refine ⟨x, List.mem_cons_self, fun z hz => ?_⟩
      rcases List.mem_cons.mp hz with rfl | hz
      · exact Int.le_refl _
      · exact Int.le_trans (h2 z hz) h
    · refine ⟨m, List.mem_cons_of_mem _ h1, fun z hz => ?_⟩
      rcases List.mem_cons.mp hz with rfl | hz
      · omega
      · exact h2 z hz
open Classical in
noncomputable def mnL (l : List Int) : Int := if h : l ≠ [] then Classical.choose (exMin l h) else 0
open Classical in
noncomputable def mxL (l : List Int) : Int := if h : l ≠ [] then Classical.choose (exMax l h) else 0
theorem mnL_spec {l : List Int} (h : l ≠ []) : mnL l ∈ l ∧ ∀ y ∈ l, mnL l ≤ y := by
  unfold mnL
  rw [dif_pos h]
  exact Classical.choose_spec (exMin l h)
theorem mxL_spec {l : List Int} (h : l ≠ []) : mxL l ∈ l ∧ ∀ y ∈ l, y ≤ mxL l := by
  unfold mxL
  rw [dif_pos h]
  exact Classical.choose_spec (exMax l h)
abbrev LD : List Int := [0, 2, 3, 7, 12, (10 : Int) ^ (20 : Int).toNat, 1]
abbrev LD6 : List Int := [0, 2, 3, 7, 12, (10 : Int) ^ (20 : Int).toNat]
abbrev LP : List Int := [1, -1]
theorem LD_ok : ∀ d ∈ LD, Sm d ∧ 0 ≤ d := by decide +kernel
theorem LD_six {i : Int} (h : 0 ≤ i ∧ i < 6) : pick LD i ∈ LD6 := by
  have : i = 0 ∨ i = 1 ∨ i = 2 ∨ i = 3 ∨ i = 4 ∨ i = 5 := by omega
  rcases this with rfl | rfl | rfl | rfl | rfl | rfl <;> decide
theorem part_mul (k y : Int) : partB k (k * y) = true := by
  unfold partB
  by_cases h : k = 0
  · rw [if_pos h, h, Int.zero_mul]
    rfl
  · rw [if_neg h, Int.mul_emod_right]
    rfl
theorem part_off : ∀ d ∈ LD6, ∀ e ∈ LP, ∀ y : Int, partB d (d * y + e) = false := by
  intro d hd e he y
  have e20 : (10 : Int) ^ (20 : Int).toNat = 100000000000000000000 := by decide
  simp only [LD6, LP, List.mem_cons, List.not_mem_nil, or_false, e20] at hd he
  unfold partB
  rcases hd with rfl | rfl | rfl | rfl | rfl | rfl <;> rcases he with rfl | rfl <;> first
    | (rw [if_pos rfl]; exact decide_eq_false (by omega))
    | (rw [if_neg (by decide)]; exact decide_eq_false (by omega))
theorem m1_get {k : List Int} {A : List (List Int)} {i : Nat} (hi : i < A.length) : (rowC k :: matC 1 A)[1 + 1 + i]? = some (rowC (A.getD i [])) := by
  have := mat_get (pre := [rowC k]) (post := []) (b := 1) (m := A) rfl hi
  rw [List.append_nil] at this
  exact this
theorem m1_set {k : List Int} {A : List (List Int)} {i : Nat} {r : List Int} (hi : i < A.length) : (rowC k :: matC 1 A).set (1 + 1 + i) (rowC r) = rowC k :: matC 1 (A.set i r) := by
  have := mat_set (pre := [rowC k]) (post := []) (b := 1) (m := A) (r := r) rfl hi
  rw [List.append_nil, List.append_nil] at this
  exact this
theorem m1_view {k : List Int} {A : List (List Int)} : View (rowC k :: matC 1 A) (.adr 1) (lM A) := mat_view' (pre := [rowC k]) (b := 1) rfl
abbrev Cg (g : Pg) : Cc := mkC g n_law_good s_law_good 3
theorem good_run (W : Wd g) {kind : Int} {n m : Nat} (hn : 1 ≤ n ∧ n ≤ 64) (hm : 1 ≤ m ∧ m ≤ 64) (ns : List Int) : ∃ c ns', Gd c ∧ Run g n_law_good s_law_good 3 [.adr 0, .dat (.int kind), .dat (.int (n : Int)), .dat (.int (m : Int))] [rowC ns] (.dat c) [rowC ns'] := by
  have T := ok_law_take W
  obtain ⟨A, n1, hA, hrun⟩ := table_run W hn hm ns
  have hAl := hA.l
  have wA := hA.w64 hn hm
  have hsm : ∀ r ∈ A, r.length < 100000 := fun r hr => by rw [hA.w r hr]; omega
  have hrne : ∀ r ∈ A, r ≠ [] := fun r hr e => by
    have := hA.w r hr
    rw [e] at this
    simp at this
    omega
  suffices ∃ c k J, Gd c ∧ SB (Cg g) ((defBody s_law_good).drop 1) [.adr 0, .dat (.int kind), .dat (.int (n : Int)), .dat (.int (m : Int)), .dat (lM A), .no, .no, .no, .no, .no] [rowC n1] (.rt (.dat c) (rowC k :: J)) by
    obtain ⟨c, k, J, h1, h2⟩ := this
    exact ⟨c, k, h1, Nat.le_refl _, True.intro, lowR, J, SB.cons (M1 := [rowC n1]) (ST.set 4 (EV.call1' (n := 0) (ds := [.int (n : Int), .int (m : Int)]) (cs := ns.map D.int) (cs' := n1.map D.int) (fn_table W) (EA.cons (EV.nm 0) (EA.cons (EV.nm 2) (EA.cons (EV.nm 3) EA.nil))) rfl ⟨rfl, hrun⟩) c_law_good.nd) h2⟩
  by_cases e0 : kind = 0
  · have p := tk_pos (ns := n1) (b := 3) (by decide)
    obtain ⟨kw, ekw⟩ : ∃ k : Nat, tk n1 3 = (k : Int) := ⟨(tk n1 3).toNat, by omega⟩
    obtain ⟨B, n2, hB, hrunB⟩ := table_run W (n := m) (m := 1 + kw) hm (by omega) (dl 1 n1)
    obtain ⟨hG, hrunP⟩ := product_run W hA hB hn hm (by omega) n2
    refine ⟨_, n2, [], hG, SB.stop (ST.yes (ET.to (ET.cm (EV.nm 1) EV.int CS.eqI) (decide_eq_true e0)) (SB.one (ST.ret (EV.call1' (n := 0) (ds := [lM A, lM B]) (cs := n2.map D.int) (cs' := n2.map D.int) (M1 := [rowC n2]) (fn_product W) (EA.cons (EV.nm 0) (EA.cons (EV.nm 4) (EA.cons (M1 := [rowC n2]) (EV.call1' (n := 0) (ds := [.int (m : Int), .int ((1 + kw : Nat) : Int)]) (cs := (dl 1 n1).map D.int) (cs' := n2.map D.int) (M1 := [rowC (dl 1 n1)]) (fn_table W) (EA.cons (EV.nm 0) (EA.cons (EV.nm 3) (EA.cons (EV.to (EV.add EV.int (ev_tk (ns := n1) T (EV.nm 0) EV.int rfl (by decide))) (by rw [ekw, Int.natCast_add]; rfl)) EA.nil))) rfl ⟨rfl, hrunB⟩) EA.nil))) rfl ⟨rfl, hrunP⟩))))⟩
  by_cases e1 : kind = 1
  · exact ⟨_, n1, [], .same wA, SB.cons (ST.no (ET.to (ET.cm (EV.nm 1) EV.int CS.eqI) (decide_eq_false e0)) SB.nil) (SB.stop (ST.yes (ET.to (ET.cm (EV.nm 1) EV.int CS.eqI) (decide_eq_true e1)) (SB.one (ST.ret (EV.tup (ds := [.str "same", tM A, tM A]) (EA.cons EV.str (EA.cons (EV.c1 (ok_law_rows W) (EV.nm 4) ⟨A, by omega, hsm, rfl, rfl⟩) (EA.cons (EV.tuple (LC.ev (LC.lM 8 (xs := A) (f := lV) (g := tV) (own := [("line", 8)]) (by rfl) c_law_good.nd rfl (EV.nm 4) rfl (Nat.le_refl _) OkM.refl (by omega) (fun q hq M => EV.tuple (EV.list (EV.nm 8) rfl W.b.list) rfl W.b.tuple))) rfl W.b.tuple) EA.nil))) (by show 3 ≤ 100000; decide))))))⟩
  have n01 : ∀ {r : Out}, SB (Cg g) ((defBody s_law_good).drop 3) [.adr 0, .dat (.int kind), .dat (.int (n : Int)), .dat (.int (m : Int)), .dat (lM A), .no, .no, .no, .no, .no] [rowC n1] r → SB (Cg g) ((defBody s_law_good).drop 1) [.adr 0, .dat (.int kind), .dat (.int (n : Int)), .dat (.int (m : Int)), .dat (lM A), .no, .no, .no, .no, .no] [rowC n1] r := fun {r} h =>
    SB.cons (ST.no (ET.to (ET.cm (EV.nm 1) EV.int CS.eqI) (decide_eq_false e0)) SB.nil) (SB.cons (ST.no (ET.to (ET.cm (EV.nm 1) EV.int CS.eqI) (decide_eq_false e1)) SB.nil) h)
  by_cases e2 : kind = 2
  · subst e2
    have pd := tk_pos (ns := n1) (b := 7) (by decide)
    obtain ⟨dd, hdd⟩ : ∃ dd, pick LD (tk n1 7) = dd := ⟨_, rfl⟩
    have hdm : dd ∈ LD := hdd ▸ pick_mem pd
    have hok := LD_ok dd hdm
    let A2 := A.map fun r => r.map fun y => dd * y
    have hA2l : A2.length = A.length := List.length_map _
    have hA2w : ∀ r ∈ A2, r.length = m := fun r hr => by
      obtain ⟨q, hq, rfl⟩ := List.mem_map.mp hr
      rw [List.length_map, hA.w q hq]
    have hA2e : O.dat (.lst (A.map fun r => D.lst (r.map fun y => .int (dd * y)))) = .dat (lM A2) := by
      show O.dat (.lst _) = O.dat (.lst ((A.map fun r => r.map fun y => dd * y).map lV))
      rw [List.map_map]
      congr 2
      refine List.map_congr_left fun r _ => ?_
      show D.lst _ = D.lst ((r.map _).map _)
      rw [List.map_map]
      rfl
    refine ⟨.tup [.str "divides", .int dd, tM A2], dl 1 n1, [], .divides hok.2 (w64_of (hA2l.trans hA.l) hA2w hn hm) ?_, n01 (SB.stop (ST.yes (ET.to (EW.et (EW.or (k1 := true) (k2 := true) (ET.to (ET.cm (EV.nm 1) EV.int CS.eqI) (by decide)) (fun z => nomatch z) (fun _ => rfl))) rfl) (SB.cons (E1 := [.adr 0, .dat (.int 2), .dat (.int (n : Int)), .dat (.int (m : Int)), .dat (lM A), .dat (.int dd), .no, .no, .no, .no]) (M1 := [rowC (dl 1 n1)]) (ST.set 5 (EV.to (EV.ix (EV.lst (ds := LD.map D.int) (EA.cons EV.int (EA.cons EV.int (EA.cons EV.int (EA.cons EV.int (EA.cons EV.int (EA.cons (EV.pow EV.int EV.int ⟨by decide, by decide, by decide⟩) (EA.cons EV.int EA.nil))))))) (by decide)) (ev_tk (ns := n1) (j := 7) T (EV.nm 0) (EV.to (EV.sub EV.int (EV.nm 1)) rfl) rfl (by decide)) (pick_at pd)) (by rw [hdd])) c_law_good.nd) (SB.cons (E1 := [.adr 0, .dat (.int 2), .dat (.int (n : Int)), .dat (.int (m : Int)), .dat (lM A2), .dat (.int dd), .no, .no, .no, .no]) (M1 := [rowC (dl 1 n1)]) (ST.to (LC.set 4 (LC.lM 8 (xs := A) (f := lV) (g := fun r => .lst (r.map fun y => .int (dd * y))) (own := [("line", 8)]) (by rfl) c_law_good.nd rfl (EV.nm 4) rfl (Nat.le_refl _) OkM.refl (by omega) (fun r hr M => LC.ev (LC.lM 9 (xs := r) (f := D.int) (own := [("x", 9)]) (by rfl) c_law_good.nd rfl (EV.nm 8) rfl (Nat.le_refl _) OkM.refl (hsm r hr) (fun y hy M => EV.mul (EV.nm 5) (EV.nm 9) (mul_ok (m := 200) (n := 200) hok.1 (hA.num r hr y hy)))))) rfl rfl (fun env he => sw_true (by rw [he]; rfl) (by rw [he]; rfl) (by rfl) (by rfl))) ?_) (SB.stop (ST.yes (ET.to (ET.cm (EV.nm 1) EV.int CS.eqI) (by decide)) (SB.one (ST.ret (EV.tup (ds := [.str "divides", .int dd, tM A2]) (EA.cons EV.str (EA.cons (EV.nm 5) (EA.cons (EV.c1 (ok_law_rows W) (EV.nm 4) ⟨A2, by omega, fun q hq => by rw [hA2w q hq]; omega, rfl, rfl⟩) EA.nil))) (by show 3 ≤ 100000; decide))))))))))⟩
    · rw [List.all_eq_true]
      intro x hx
      obtain ⟨r, hr, hx⟩ := List.mem_flatten.mp hx
      obtain ⟨q, _, rfl⟩ := List.mem_map.mp hr
      obtain ⟨y, _, rfl⟩ := List.mem_map.mp hx
      exact part_mul dd y
    · rw [hA2e]
      rfl
  by_cases e3 : kind = 3
  · subst e3
    have pd := tk_pos (ns := n1) (b := 6) (by decide)
    obtain ⟨dd, hdd⟩ : ∃ dd, pick LD (tk n1 6) = dd := ⟨_, rfl⟩
    have hdm : dd ∈ LD := hdd ▸ pick_mem (L := LD) ⟨pd.1, by have := pd.2; show tk n1 6 < 7; omega⟩
    have hd6 : dd ∈ LD6 := hdd ▸ LD_six pd
    have hok := LD_ok dd hdm
    let A2 := A.map fun r => r.map fun y => dd * y
    have hA2l : A2.length = A.length := List.length_map _
    have hA2w : ∀ r ∈ A2, r.length = m := fun r hr => by
      obtain ⟨q, hq, rfl⟩ := List.mem_map.mp hr
      rw [List.length_map, hA.w q hq]
    have p1 := tk_pos (ns := dl 1 n1) (b := (n : Int)) (by omega)
    have p2 := tk_pos (ns := dl 2 n1) (b := (m : Int)) (by omega)
    obtain ⟨ki, eki⟩ : ∃ k : Nat, tk (dl 1 n1) n = (k : Int) := ⟨(tk (dl 1 n1) n).toNat, by omega⟩
    obtain ⟨kj, ekj⟩ : ∃ k : Nat, tk (dl 2 n1) m = (k : Int) := ⟨(tk (dl 2 n1) m).toNat, by omega⟩
    have p3 := tk_pos (ns := dl 3 n1) (b := 2) (by decide)
    obtain ⟨de, hde⟩ : ∃ de, pick LP (tk (dl 3 n1) 2) = de := ⟨_, rfl⟩
    have hdeM : de ∈ LP := hde ▸ pick_mem p3
    have hki : ki < A2.length := by omega
    have hrow : (A2.getD ki []).length = m := hA2w _ (mem_getD hki)
    have hkj : kj < (A2.getD ki []).length := by omega
    let v := (A2.getD ki []).getD kj 0 + de
    let A3 := A2.set ki ((A2.getD ki []).set kj v)
    have hA3l : A3.length = n := by show (List.set _ _ _).length = _; rw [List.length_set]; omega
    have hA3w : ∀ r ∈ A3, r.length = m := fun r hr => by
      rcases List.mem_or_eq_of_mem_set hr with hr | rfl
      · exact hA2w r hr
      · rw [List.length_set, hrow]
    refine ⟨.tup [.str "not divides", .int dd, tM A3], dl 4 n1, matC 1 A3, .notdiv hok.2 (w64_of hA3l hA3w hn hm) ?_, n01 (SB.stop (ST.yes (ET.to (EW.et (EW.or (k1 := false) (k2 := true) (ET.to (ET.cm (EV.nm 1) EV.int CS.eqI) (by decide)) (fun _ => EW.or1 (ET.to (ET.cm (EV.nm 1) EV.int CS.eqI) (by decide))) (fun z => nomatch z))) rfl) (SB.cons (E1 := [.adr 0, .dat (.int 3), .dat (.int (n : Int)), .dat (.int (m : Int)), .dat (lM A), .dat (.int dd), .no, .no, .no, .no]) (M1 := [rowC (dl 1 n1)]) (ST.set 5 (EV.to (EV.ix (EV.lst (ds := LD.map D.int) (EA.cons EV.int (EA.cons EV.int (EA.cons EV.int (EA.cons EV.int (EA.cons EV.int (EA.cons (EV.pow EV.int EV.int ⟨by decide, by decide, by decide⟩) (EA.cons EV.int EA.nil))))))) (by decide)) (ev_tk (ns := n1) (j := 6) T (EV.nm 0) (EV.to (EV.sub EV.int (EV.nm 1)) rfl) rfl (by decide)) (pick_at ⟨pd.1, by have := pd.2; show tk n1 6 < 7; omega⟩)) (by rw [hdd])) c_law_good.nd) (SB.cons (E1 := [.adr 0, .dat (.int 3), .dat (.int (n : Int)), .dat (.int (m : Int)), .adr 1, .dat (.int dd), .no, .no, .no, .no]) (M1 := rowC (dl 1 n1) :: matC 1 A2) (LC.set 4 (LC.lNest 8 (pre := [rowC (dl 1 n1)]) (xs := A) (f := lV) (fun r => r.map fun y => dd * y) (own := [("line", 8)]) (by rfl) c_law_good.nd rfl (EV.nm 4) rfl (by omega) (fun r hr M => ?_)) rfl rfl (fun env he => sw_true (by rw [he]; rfl) (by rw [he]; rfl) (by rfl) (by rfl))) (SB.cons (ST.no (ET.to (ET.cm (EV.nm 1) EV.int CS.eqI) (by decide)) SB.nil) (SB.cons (E1 := [.adr 0, .dat (.int 3), .dat (.int (n : Int)), .dat (.int (m : Int)), .adr 1, .dat (.int dd), .dat (.int (ki : Int)), .no, .no, .no]) (M1 := rowC (dl 2 n1) :: matC 1 A2) (ST.set 6 (EV.to (ev_tk (ns := dl 1 n1) (j := (n : Int)) T (EV.nm 0) (EV.nm 2) rfl (by omega)) (by rw [eki])) c_law_good.nd) (SB.cons (E1 := [.adr 0, .dat (.int 3), .dat (.int (n : Int)), .dat (.int (m : Int)), .adr 1, .dat (.int dd), .dat (.int (ki : Int)), .dat (.int (kj : Int)), .no, .no]) (M1 := rowC (dl 3 n1) :: matC 1 A2) (ST.set 7 (EV.to (ev_tk (ns := dl 2 n1) (j := (m : Int)) T (EV.nm 0) (EV.nm 3) rfl (by omega)) (by rw [ekj])) c_law_good.nd) (SB.cons (E1 := [.adr 0, .dat (.int 3), .dat (.int (n : Int)), .dat (.int (m : Int)), .adr 1, .dat (.int dd), .dat (.int (ki : Int)), .dat (.int (kj : Int)), .no, .no]) (M1 := rowC (dl 4 n1) :: matC 1 A3) (ST.to (ST.asg (M1 := rowC (dl 4 n1) :: matC 1 A2) (o := .dat (.int v)) (EV.to (EV.add (EV.ixC (n := 1 + 1 + ki) (EV.ixC (n := 1) (EV.nm 4) (EV.nm 6) rfl (adr_at (b := 1 + 1) hki)) (EV.nm 7) (m1_get hki) (row_at hkj)) (EV.ix (EV.lst (ds := LP.map D.int) (EA.cons EV.int (EA.cons (EV.neg EV.int) EA.nil)) (by decide)) (ev_tk (ns := dl 3 n1) T (EV.nm 0) EV.int rfl (by decide)) (pick_at p3))) (by rw [hde])) (EG.sub (n := 1 + 1 + ki) (jj := kj) (ps := ((A2.getD ki []).map D.int).map O.dat) (EV.ixC (n := 1) (EV.nm 4) (EV.nm 6) rfl (adr_at (b := 1 + 1) hki)) (EV.nm 7) (m1_get hki) (by rw [row_len]; exact ixN_of hkj))) ?_) (SB.one (ST.ret (EV.tup (ds := [.str "not divides", .int dd, tM A3]) (EA.cons EV.str (EA.cons (EV.nm 5) (EA.cons (EV.lend (ds := [lM A3]) (ok_law_rows W) (EA.cons (EV.nm 4) EA.nil) (.cons m1_view .nil) ⟨_, _, rfl, rfl, rfl, rfl, A3, by omega, fun q hq => by rw [hA3w q hq]; omega, rfl, rfl⟩ (NoL.mat A3)) EA.nil))) (by show 3 ≤ 100000; decide))))))))))))⟩
    · rw [← Bool.not_eq_true]
      intro h
      have hmem : v ∈ A3.flatten := List.mem_flatten.mpr ⟨_, List.mem_set hki _, List.mem_set hkj _⟩
      have hx := List.all_eq_true.mp h v hmem
      have hg : A2.getD ki [] = (A.getD ki []).map fun y => dd * y := getD_map (a0 := []) (by omega)
      have hy : (A2.getD ki []).getD kj 0 = dd * (A.getD ki []).getD kj 0 := by
        rw [hg, getD_map (a0 := 0) (by rw [hA.w _ (mem_getD (by omega))]; omega)]
      have hv : v = dd * (A.getD ki []).getD kj 0 + de := by
        show (A2.getD ki []).getD kj 0 + de = _
        rw [hy]
      rw [hv, part_off dd hd6 de hdeM] at hx
      cases hx
    · have e : (r.map fun y => D.int (dd * y)) = (r.map fun y => dd * y).map D.int := by
        rw [List.map_map]
        rfl
      show EV _ _ _ _ _ (M ++ [some (((r.map fun y => dd * y).map D.int).map O.dat)])
      rw [← e]
      exact LC.ev (LC.lMC 9 (xs := r) (f := D.int) (own := [("x", 9)]) (by rfl) c_law_good.nd rfl (EV.nm 8) rfl (hsm r hr) (fun y hy M => EV.mul (EV.nm 5) (EV.nm 9) (mul_ok (m := 200) (n := 200) hok.1 (hA.num r hr y hy))))
    · show Out.nx _ ((rowC (dl 4 n1) :: matC 1 A2).set (1 + 1 + ki) _) = _
      rw [row_set, m1_set hki]
  have n23 : ∀ {r : Out}, SB (Cg g) ((defBody s_law_good).drop 4) [.adr 0, .dat (.int kind), .dat (.int (n : Int)), .dat (.int (m : Int)), .dat (lM A), .no, .no, .no, .no, .no] [rowC n1] r → SB (Cg g) ((defBody s_law_good).drop 1) [.adr 0, .dat (.int kind), .dat (.int (n : Int)), .dat (.int (m : Int)), .dat (lM A), .no, .no, .no, .no, .no] [rowC n1] r := fun {r} h =>
    n01 (SB.cons (ST.no (ET.to (EW.et (EW.or (k1 := false) (k2 := false) (ET.to (ET.cm (EV.nm 1) EV.int CS.eqI) (decide_eq_false e2)) (fun _ => EW.or1 (ET.to (ET.cm (EV.nm 1) EV.int CS.eqI) (decide_eq_false e3))) (fun z => nomatch z))) rfl) SB.nil) h)
  have hmn : A.map mnL ≠ [] := fun e => by
    have := congrArg List.length e
    rw [List.length_map] at this
    simp at this
    rw [this] at hAl
    simp at hAl
    omega
  have hmx : A.map mxL ≠ [] := fun e => by
    have := congrArg List.length e
    rw [List.length_map] at this
    simp at this
    rw [this] at hAl
    simp at hAl
    omega
  by_cases e4 : kind = 4
  · obtain ⟨h1, h2⟩ := mnL_spec hmn
    refine ⟨.tup [.str "least", tM A, .int (mnL (A.map mnL))], n1, [], .least wA ?_, n23 (SB.stop (ST.yes (ET.to (ET.cm (EV.nm 1) EV.int CS.eqI) (decide_eq_true e4)) (SB.one (ST.ret (EV.tup (ds := [.str "least", tM A, .int (mnL (A.map mnL))]) (EA.cons EV.str (EA.cons (EV.c1 (ok_law_rows W) (EV.nm 4) ⟨A, by omega, hsm, rfl, rfl⟩) (EA.cons (EV.minL (ns := A.map mnL) ?_ h1 h2 W.b.min) EA.nil))) (by show 3 ≤ 100000; decide))))))⟩
    · rw [List.all_eq_true]
      intro x hx
      obtain ⟨r, hr, hx⟩ := List.mem_flatten.mp hx
      exact decide_eq_true (Int.le_trans (h2 _ (List.mem_map.mpr ⟨r, hr, rfl⟩)) ((mnL_spec (hrne r hr)).2 x hx))
    · rw [List.map_map]
      exact LC.ev (LC.lM 8 (xs := A) (f := lV) (g := fun r => .int (mnL r)) (own := [("line", 8)]) (by rfl) c_law_good.nd rfl (EV.nm 4) rfl (Nat.le_refl _) OkM.refl (by omega) (fun q hq M => EV.minL (ns := q) (EV.nm 8) (mnL_spec (hrne q hq)).1 (mnL_spec (hrne q hq)).2 W.b.min))
  by_cases e5 : kind = 5
  · obtain ⟨h1, h2⟩ := mxL_spec hmx
    refine ⟨.tup [.str "less", tM A, .int (mxL (A.map mxL) + 1)], n1, [], .less wA ?_, n23 (SB.cons (ST.no (ET.to (ET.cm (EV.nm 1) EV.int CS.eqI) (decide_eq_false e4)) SB.nil) (SB.stop (ST.yes (ET.to (ET.cm (EV.nm 1) EV.int CS.eqI) (decide_eq_true e5)) (SB.one (ST.ret (EV.tup (ds := [.str "less", tM A, .int (mxL (A.map mxL) + 1)]) (EA.cons EV.str (EA.cons (EV.c1 (ok_law_rows W) (EV.nm 4) ⟨A, by omega, hsm, rfl, rfl⟩) (EA.cons (EV.add (EV.maxL (ns := A.map mxL) ?_ h1 h2 W.b.max) EV.int) EA.nil))) (by show 3 ≤ 100000; decide)))))))⟩
    · rw [List.all_eq_true]
      intro x hx
      obtain ⟨r, hr, hx⟩ := List.mem_flatten.mp hx
      have h3 := h2 _ (List.mem_map.mpr ⟨r, hr, rfl⟩)
      have h4 := (mxL_spec (hrne r hr)).2 x hx
      exact decide_eq_true (by omega)
    · rw [List.map_map]
      exact LC.ev (LC.lM 8 (xs := A) (f := lV) (g := fun r => .int (mxL r)) (own := [("line", 8)]) (by rfl) c_law_good.nd rfl (EV.nm 4) rfl (Nat.le_refl _) OkM.refl (by omega) (fun q hq M => EV.maxL (ns := q) (EV.nm 8) (mxL_spec (hrne q hq)).1 (mxL_spec (hrne q hq)).2 W.b.max))
  · obtain ⟨c, n2, hG, hrunS⟩ := staircase_run W hn hm n1
    exact ⟨c, n2, [], hG, n23 (SB.cons (ST.no (ET.to (ET.cm (EV.nm 1) EV.int CS.eqI) (decide_eq_false e4)) SB.nil) (SB.cons (ST.no (ET.to (ET.cm (EV.nm 1) EV.int CS.eqI) (decide_eq_false e5)) SB.nil) (SB.one (ST.ret (EV.call1' (n := 0) (ds := [.int (n : Int), .int (m : Int)]) (cs := n1.map D.int) (cs' := n2.map D.int) (fn_staircase W) (EA.cons (EV.nm 0) (EA.cons (EV.nm 2) (EA.cons (EV.nm 3) EA.nil))) rfl ⟨rfl, hrunS⟩)))))⟩
theorem fn_good (W : Wd g) : FN g "_law_good" 4 (fun os M o M' => os.length = 4 ∧ Run g n_law_good s_law_good 3 os M o M') := FN.run (ps := ["row", "kind", "n", "m"]) W.t_law_good c_law_good (fun _ _ _ _ _ _ us hl => match us, hl with | [_, _, _, _], _ => rfl)
end
section
variable {g : Pg}
abbrev LW : List Int := [1, -1, 2, -5, (10 : Int) ^ (30 : Int).toNat]
theorem LW_sm : ∀ x ∈ LW, Sm x := by decide +kernel
theorem bn_add {x d : Int} (hx : Sm x) (hd : Sm d) : Bn (x + d) := by
  have h1 : x.natAbs < 2 ^ 200 := hx
  have h2 : d.natAbs < 2 ^ 200 := hd
  have h3 := Int.natAbs_add_le x d
  have h4 : 2 ^ 200 + 2 ^ 200 ≤ 2 ^ 250 := by decide
  have h5 : (x + d).natAbs < 2 ^ 200 + 2 ^ 200 := by omega
  exact Nat.lt_of_lt_of_le h5 h4
theorem set_w64 {A : List (List Int)} (hA : W64 A) {i : Nat} {r : List Int} (hr : r.length = wd A) : W64 (A.set i r) := w64_of (n := A.length) (m := wd A) List.length_set (fun q hq => by
  rcases List.mem_or_eq_of_mem_set hq with hq | rfl
  · exact hA.rect q hq
  · exact hr) hA.l hA.w
theorem set_bn {A : List (List Int)} (hA : BnM A) {i : Nat} {r : List Int} (hr : ∀ x ∈ r, Bn x) : BnM (A.set i r) := fun q hq => by
  rcases List.mem_or_eq_of_mem_set hq with hq | rfl
  · exact hA q hq
  · exact hr
theorem put_bn {r : List Int} {j : Nat} {x : Int} (hr : ∀ x ∈ r, Bn x) (hx : Bn x) : ∀ y ∈ r.set j x, Bn y := fun y hy => by
  rcases List.mem_or_eq_of_mem_set hy with hy | rfl
  · exact hr y hy
  · exact hx
theorem moved_run (W : Wd g) {A : List (List Int)} (hA : W64 A) (ns : List Int) : ∃ B ns', W64 B ∧ (SmM A → BnM B) ∧ Run g n_law_moved s_law_moved 1 [.adr 0, .dat (tM A)] [rowC ns] (.dat (tM B)) [rowC ns'] := by
  have T := ok_law_take W
  have hl := hA.l
  have hw := hA.w
  have hsm : ∀ r ∈ A, r.length < 100000 := fun r hr => by rw [hA.rect r hr]; omega
  have p1 := tk_pos (ns := ns) (b := (A.length : Int)) (by omega)
  have p2 := tk_pos (ns := dl 1 ns) (b := (wd A : Int)) (by omega)
  have p3 := tk_pos (ns := dl 2 ns) (b := 7) (by decide)
  obtain ⟨ki, eki⟩ : ∃ k : Nat, tk ns A.length = (k : Int) := ⟨(tk ns A.length).toNat, by omega⟩
  obtain ⟨kj, ekj⟩ : ∃ k : Nat, tk (dl 1 ns) (wd A) = (k : Int) := ⟨(tk (dl 1 ns) (wd A)).toNat, by omega⟩
  obtain ⟨way, hway⟩ : ∃ w, tk (dl 2 ns) 7 = w := ⟨_, rfl⟩
  have hki : ki < A.length := by omega
  have hrow : (A.getD ki []).length = wd A := wd_getD hA hki
  have hkj : kj < (A.getD ki []).length := by omega
  suffices ∃ B k J, W64 B ∧ (SmM A → BnM B) ∧ SB (mkC g n_law_moved s_law_moved 1) ((defBody s_law_moved).drop 4) [.adr 0, .dat (tM A), .adr 1, .dat (.int (ki : Int)), .dat (.int (kj : Int)), .dat (.int way), .no, .no] (rowC (dl 3 ns) :: matC 1 A) (.rt (.dat (tM B)) (rowC k :: J)) by
    obtain ⟨B, k, J, h1, h2, h3⟩ := this
    refine ⟨B, k, h1, h2, Nat.le_refl _, True.intro, lowR, J, SB.cons (E1 := [.adr 0, .dat (tM A), .adr 1, .no, .no, .no, .no, .no]) (M1 := rowC ns :: matC 1 A) (ST.to (LC.set 2 (LC.lNest 7 (pre := [rowC ns]) (xs := A) (f := tV) (fun r => r) (own := [("line", 7)]) (by rfl) c_law_moved.nd rfl (EV.nm 1) rfl (by omega) (fun r hr M => EV.listN (EV.nm 7) rfl W.b.list)) rfl rfl (fun env he => sw_true (by rw [he]; rfl) (by rw [he]; rfl) (by rfl) (by rfl))) ?_) (SB.cons (E1 := [.adr 0, .dat (tM A), .adr 1, .dat (.int (ki : Int)), .no, .no, .no, .no]) (M1 := rowC (dl 1 ns) :: matC 1 A) (ST.set 3 (EV.to (ev_tk (ns := ns) (j := (A.length : Int)) T (EV.nm 0) (EV.len (EV.nm 1) len_tM W.b.len) rfl (by omega)) (by rw [eki])) c_law_moved.nd) (SB.cons (E1 := [.adr 0, .dat (tM A), .adr 1, .dat (.int (ki : Int)), .dat (.int (kj : Int)), .no, .no, .no]) (M1 := rowC (dl 2 ns) :: matC 1 A) (ST.set 4 (EV.to (ev_tk (ns := dl 1 ns) (j := (wd A : Int)) T (EV.nm 0) (EV.len (EV.ix (EV.nm 1) EV.int (ix_tM0 hA.ne)) len_tV W.b.len) rfl (by omega)) (by rw [ekj])) c_law_moved.nd) (SB.cons (E1 := [.adr 0, .dat (tM A), .adr 1, .dat (.int (ki : Int)), .dat (.int (kj : Int)), .dat (.int way), .no, .no]) (M1 := rowC (dl 3 ns) :: matC 1 A) (ST.set 5 (EV.to (ev_tk (ns := dl 2 ns) (j := 7) T (EV.nm 0) EV.int rfl (by decide)) (by rw [hway])) c_law_moved.nd) h3)))⟩
    rw [List.map_id']
    rfl
  have fin : ∀ {v : Int} {k : List Int} {E : List O}, E[2]? = some (.adr 1) → SB (mkC g n_law_moved s_law_moved 1) ((defBody s_law_moved).drop 5) E (rowC k :: matC 1 (A.set ki ((A.getD ki []).set kj v))) (.rt (.dat (tM (A.set ki ((A.getD ki []).set kj v)))) (rowC k :: matC 1 (A.set ki ((A.getD ki []).set kj v)))) := fun {v k E} hE =>
    SB.one (ST.ret (EV.lend (ds := [lM (A.set ki ((A.getD ki []).set kj v))]) (ok_law_rows W) (EA.cons (EV.nm 2 rfl hE) EA.nil) (.cons m1_view .nil) ⟨_, _, rfl, rfl, rfl, rfl, A.set ki ((A.getD ki []).set kj v), by rw [List.length_set]; omega, fun q hq => by
      rcases List.mem_or_eq_of_mem_set hq with hq | rfl
      · exact hsm q hq
      · rw [List.length_set, hrow]; omega, rfl, rfl⟩ (NoL.mat _)))
  by_cases h6 : way = 6
  · have p4 := tk_pos (ns := dl 3 ns) (b := (A.length : Int)) (by omega)
    obtain ⟨kk, ekk⟩ : ∃ k : Nat, tk (dl 3 ns) A.length = (k : Int) := ⟨(tk (dl 3 ns) A.length).toNat, by omega⟩
    have hkk : kk < A.length := by omega
    let B := (A.set ki (A.getD kk [])).set kk (A.getD ki [])
    let as : List O := (List.range A.length).map fun i => .adr (1 + 1 + i)
    have hasl : as.length = A.length := by show (List.map _ _).length = _; rw [List.length_map, List.length_range]
    have wB : W64 B := by
      refine w64_of (n := A.length) (m := wd A) (by rw [List.length_set, List.length_set]) (fun q hq => ?_) hA.l hA.w
      rcases List.mem_or_eq_of_mem_set hq with hq | rfl
      · rcases List.mem_or_eq_of_mem_set hq with hq | rfl
        · exact hA.rect q hq
        · exact wd_getD hA hkk
      · exact hrow
    refine ⟨B, dl 4 ns, some ((as.set ki (.dat (lV (A.getD kk [])))).set kk (.dat (lV (A.getD ki [])))) :: A.map rowC, wB, fun hs => ?_, SB.cons (E1 := [.adr 0, .dat (tM A), .adr 1, .dat (.int (ki : Int)), .dat (.int (kj : Int)), .dat (.int way), .dat (.int (kk : Int)), .no]) (M1 := rowC (dl 4 ns) :: some ((as.set ki (.dat (lV (A.getD kk [])))).set kk (.dat (lV (A.getD ki [])))) :: A.map rowC) (ST.yes (ET.to (ET.cm (EV.nm 5) EV.int CS.eqI) (decide_eq_true h6)) (SB.cons (E1 := [.adr 0, .dat (tM A), .adr 1, .dat (.int (ki : Int)), .dat (.int (kj : Int)), .dat (.int way), .dat (.int (kk : Int)), .no]) (M1 := rowC (dl 4 ns) :: matC 1 A) (ST.set 6 (EV.to (ev_tk (ns := dl 3 ns) (j := (A.length : Int)) T (EV.nm 0) (EV.len (EV.nm 1) len_tM W.b.len) rfl (by omega)) (by rw [ekk])) c_law_moved.nd) (SB.cons (E1 := [.adr 0, .dat (tM A), .adr 1, .dat (.int (ki : Int)), .dat (.int (kj : Int)), .dat (.int way), .dat (.int (kk : Int)), .no]) (M1 := rowC (dl 4 ns) :: some (as.set ki (.dat (lV (A.getD kk [])))) :: A.map rowC) (ST.asg (EV.list (EV.ix (EV.nm 1) (EV.nm 6) (ix_tM hkk)) rfl W.b.list) (EG.sub (n := 1) (jj := ki) (ps := as) (EV.nm 2) (EV.nm 3) rfl (by rw [hasl]; exact ixN_of hki))) (SB.one (ST.asg (EV.list (EV.ix (EV.nm 1) (EV.nm 3) (ix_tM hki)) rfl W.b.list) (EG.sub (n := 1) (jj := kk) (ps := as.set ki (.dat (lV (A.getD kk [])))) (EV.nm 2) (EV.nm 6) rfl (by rw [List.length_set, hasl]; exact ixN_of hkk))))))) (SB.one (ST.ret (EV.lend (ds := [lM B]) (ok_law_rows W) (EA.cons (EV.nm 2) EA.nil) (.cons ?_ .nil) ⟨_, _, rfl, rfl, rfl, rfl, B, by have := wB.l; omega, fun q hq => by have := wB.rect q hq; have := wB.w; omega, rfl, rfl⟩ (NoL.mat _))))⟩
    · refine set_bn (set_bn hs.bn ?_) ?_
      · exact fun x hx => (hs _ (mem_getD hkk) x hx).bn
      · exact fun x hx => (hs _ (mem_getD hki) x hx).bn
    · have e : lM B = .lst (((A.map lV).set ki (lV (A.getD kk []))).set kk (lV (A.getD ki []))) := by
        show D.lst (((A.set ki _).set kk _).map lV) = _
        rw [List.map_set, List.map_set]
      rw [e]
      refine .cel rfl (Views.set kk (Views.set ki (rows_view A (1 + 1) fun i hi => ?_)))
      rw [show 1 + 1 + i = i + 2 by omega]
      show (A.map rowC)[i]? = _
      rw [List.getElem?_map, List.getElem?_eq_getElem hi, List.getD_eq_getElem?_getD, List.getElem?_eq_getElem hi]
      rfl
  · have at' : ∀ {E : List O} {k : List Int} {p q q1 q2 q3 : Pos}, E[2]? = some (.adr 1) → E[3]? = some (.dat (.int (ki : Int))) → E[4]? = some (.dat (.int (kj : Int))) → EV (mkC g n_law_moved s_law_moved 1) (.Subscript (.Subscript (.Name "told" p) (.Name "i" q) q1) (.Name "j" q2) q3) E (rowC k :: matC 1 A) (.dat (.int ((A.getD ki []).getD kj 0))) (rowC k :: matC 1 A) := fun {E k p q q1 q2 q3} a1 a2 a3 =>
      EV.ixC (n := 1 + 1 + ki) (EV.ixC (n := 1) (EV.nm 2 rfl a1) (EV.nm 3 rfl a2) rfl (adr_at (b := 1 + 1) hki)) (EV.nm 4 rfl a3) (m1_get hki) (row_at hkj)
    have hgm : (A.getD ki []).getD kj 0 ∈ A.getD ki [] := mem_getD hkj
    have mk : ∀ v : Int, (SmM A → Bn v) → W64 (A.set ki ((A.getD ki []).set kj v)) ∧ (SmM A → BnM (A.set ki ((A.getD ki []).set kj v))) := fun v hv => ⟨set_w64 hA (by rw [List.length_set, hrow]), fun hs => set_bn hs.bn (put_bn (fun x hx => (hs _ (mem_getD hki) x hx).bn) (hv hs))⟩
    by_cases h5 : way = 5
    · obtain ⟨m1, m2⟩ := mk (0 - (A.getD ki []).getD kj 0) (fun hs => by
        have := (hs _ (mem_getD hki) _ hgm).bn
        show (0 - _ : Int).natAbs < _
        rw [Int.zero_sub, Int.natAbs_neg]
        exact this)
      refine ⟨_, dl 3 ns, _, m1, m2, SB.cons (E1 := [.adr 0, .dat (tM A), .adr 1, .dat (.int (ki : Int)), .dat (.int (kj : Int)), .dat (.int way), .no, .no]) (M1 := rowC (dl 3 ns) :: matC 1 (A.set ki ((A.getD ki []).set kj (0 - (A.getD ki []).getD kj 0)))) (ST.no (ET.to (ET.cm (EV.nm 5) EV.int CS.eqI) (decide_eq_false h6)) (SB.one (ST.yes (ET.to (ET.cm (EV.nm 5) EV.int CS.eqI) (decide_eq_true h5)) (SB.one (ST.to (ST.asg (EV.sub EV.int (at' rfl rfl rfl)) (EG.sub (n := 1 + 1 + ki) (jj := kj) (ps := ((A.getD ki []).map D.int).map O.dat) (EV.ixC (n := 1) (EV.nm 2) (EV.nm 3) rfl (adr_at (b := 1 + 1) hki)) (EV.nm 4) (m1_get hki) (by rw [row_len]; exact ixN_of hkj))) ?_))))) (fin rfl)⟩
      rw [row_set, m1_set hki]
    · have hlt : 0 ≤ way ∧ way < 5 := by omega
      obtain ⟨m1, m2⟩ := mk ((A.getD ki []).getD kj 0 + pick LW way) (fun hs => bn_add (hs _ (mem_getD hki) _ hgm) (LW_sm _ (pick_mem hlt)))
      refine ⟨_, dl 3 ns, _, m1, m2, SB.cons (E1 := [.adr 0, .dat (tM A), .adr 1, .dat (.int (ki : Int)), .dat (.int (kj : Int)), .dat (.int way), .no, .no]) (M1 := rowC (dl 3 ns) :: matC 1 (A.set ki ((A.getD ki []).set kj ((A.getD ki []).getD kj 0 + pick LW way)))) (ST.no (ET.to (ET.cm (EV.nm 5) EV.int CS.eqI) (decide_eq_false h6)) (SB.one (ST.no (ET.to (ET.cm (EV.nm 5) EV.int CS.eqI) (decide_eq_false h5)) (SB.one (ST.to (ST.asg (EV.add (at' rfl rfl rfl) (EV.ix (EV.lst (ds := LW.map D.int) (EA.cons EV.int (EA.cons (EV.neg EV.int) (EA.cons EV.int (EA.cons (EV.neg EV.int) (EA.cons (EV.pow EV.int EV.int ⟨by decide, by decide, by decide⟩) EA.nil))))) (by decide)) (EV.nm 5) (pick_at hlt))) (EG.sub (n := 1 + 1 + ki) (jj := kj) (ps := ((A.getD ki []).map D.int).map O.dat) (EV.ixC (n := 1) (EV.nm 2) (EV.nm 3) rfl (adr_at (b := 1 + 1) hki)) (EV.nm 4) (m1_get hki) (by rw [row_len]; exact ixN_of hkj))) ?_))))) (fin rfl)⟩
      rw [row_set, m1_set hki]
theorem fn_moved (W : Wd g) : FN g "_law_moved" 2 (fun os M o M' => os.length = 2 ∧ Run g n_law_moved s_law_moved 1 os M o M') := FN.run (ps := ["row", "a"]) W.t_law_moved c_law_moved (fun _ _ _ _ _ _ us hl => match us, hl with | [_, _], _ => rfl)
end
section
variable {g : Pg}
abbrev L4a (k : Int) : List Int := [1, -1, 2, 0 - k]
abbrev L4b : List Int := [1, -1, 2, (10 : Int) ^ (41 : Int).toNat]
theorem dm_cl {d : D} {b : Bool} (h : CL d b) (m : Mild d) : Dm d := .inl ⟨⟨b, h⟩, m⟩
theorem dm_more {A : List (List Int)} (hA : W64 A) : Dm (.tup [.str "same", tM A, tM (A ++ [A.headD []])]) := by
  have hl := hA.l
  have hh : (A.headD []).length = wd A := rfl
  have hlen : (A ++ [A.headD []]).length = A.length + 1 := by rw [List.length_append]; rfl
  have hwd : wd (A ++ [A.headD []]) = wd A := by
    cases A with
    | nil => exact absurd hl.1 (by decide)
    | cons r q => rfl
  have hr : ∀ r ∈ A ++ [A.headD []], r.length = wd (A ++ [A.headD []]) := fun r hr => by
    rw [hwd]
    rcases List.mem_append.mp hr with hr | hr
    · exact hA.rect r hr
    · rw [List.mem_singleton.mp hr, hh]
  have h65 : R65 (A ++ [A.headD []]) := ⟨by omega, by rw [hwd]; exact hA.w, hr⟩
  by_cases h : (A ++ [A.headD []]).length ≤ 64
  · exact dm_cl (CL.same hA (h65.w64 h)) mild3
  · exact .inr ⟨_, _, hA, h65, h, rfl⟩
theorem spoilt_run (W : Wd g) {c : D} (hc : Gd c) (ns : List Int) : ∃ q ns', Dm q ∧ Run g n_law_spoilt s_law_spoilt 2 [.adr 0, .dat c] [rowC ns] (.dat q) [rowC ns'] := by
  have T := ok_law_take W
  obtain ⟨way, hway⟩ : ∃ w, tk ns 4 = w := ⟨_, rfl⟩
  obtain ⟨t, ht⟩ : ∃ t, tk (dl 1 ns) 3 = t := ⟨_, rfl⟩
  have p3 := tk_pos (ns := dl 1 ns) (b := 3) (by decide)
  have p4 := tk_pos (ns := dl 1 ns) (b := 4) (by decide)
  rw [ht] at p3
  suffices ∃ q k, Dm q ∧ SB (mkC g n_law_spoilt s_law_spoilt 2) ((defBody s_law_spoilt).drop 1) [.adr 0, .dat c, .dat (.int way), .no, .no] [rowC (dl 1 ns)] (.rt (.dat q) [rowC k]) by
    obtain ⟨q, k, h1, h2⟩ := this
    exact ⟨q, k, h1, Nat.le_refl _, True.intro, lowR, [], SB.cons (M1 := [rowC (dl 1 ns)]) (ST.set 2 (EV.to (ev_tk (ns := ns) T (EV.nm 0) EV.int rfl (by decide)) (by rw [hway])) c_law_spoilt.nd) h2⟩
  cases hc with
  | @product a b c ha hb hc sa sb h =>
    have x0 : ixD (.tup [.str "product", tM a, tM b, tM c]) ((0 : Nat) : Int) = some (.str "product") := atI_nat rfl
    have x1 : ixD (.tup [.str "product", tM a, tM b, tM c]) ((1 : Nat) : Int) = some (tM a) := atI_nat rfl
    have x2 : ixD (.tup [.str "product", tM a, tM b, tM c]) ((2 : Nat) : Int) = some (tM b) := atI_nat rfl
    have x3 : ixD (.tup [.str "product", tM a, tM b, tM c]) ((3 : Nat) : Int) = some (tM c) := atI_nat rfl
    by_cases e3 : way = 3
    · exact ⟨.tup [.str "product", tM b, tM a, tM c], dl 1 ns, dm_cl (CL.product hb ha hc) (mildP (BnM.ok sb.bn sa.bn)), SB.cons (ST.set 3 (EV.ix (EV.nm 1) EV.int x0) c_law_spoilt.nd) (SB.stop (ST.yes (ET.to (EW.et (EW.and (k1 := true) (ET.to (ET.cm (EV.nm 3) EV.str CS.eqS) (by decide)) (fun _ => EW.and1 (ET.to (ET.cm (EV.nm 2) EV.int CS.eqI) (decide_eq_true e3))) (fun z => nomatch z))) rfl) (SB.one (ST.ret (EV.tup (ds := [.str "product", tM b, tM a, tM c]) (EA.cons (EV.str) (EA.cons (EV.ix (EV.nm 1) EV.int x2) (EA.cons (EV.ix (EV.nm 1) EV.int x1) (EA.cons (EV.ix (EV.nm 1) EV.int x3) (EA.nil))))) (by show 4 ≤ 100000; decide))))))⟩
    have ht3 : t = 0 ∨ t = 1 ∨ t = 2 := by omega
    rcases ht3 with rfl | rfl | rfl
    · obtain ⟨B, n3, wB, hbn, hrun⟩ := moved_run W ha (dl 2 ns)
      exact ⟨.tup [.str "product", tM B, tM b, tM c], n3, dm_cl (CL.product wB hb hc) (mildP (BnM.ok (hbn sa) sb.bn)), SB.cons (ST.set 3 (EV.ix (EV.nm 1) EV.int x0) c_law_spoilt.nd) (SB.cons (ST.no (ET.to (EW.et (EW.and (k1 := true) (ET.to (ET.cm (EV.nm 3) EV.str CS.eqS) (by decide)) (fun _ => EW.and1 (ET.to (ET.cm (EV.nm 2) EV.int CS.eqI) (decide_eq_false e3))) (fun z => nomatch z))) rfl) SB.nil) (SB.cons (ST.no (ET.to (EW.et (EW.and (k1 := false) (k2 := true) (ET.to (ET.cm (EV.nm 3) EV.str CS.eqS) (by decide)) (fun z => nomatch z) (fun _ => rfl))) rfl) SB.nil) (SB.cons (ST.no (ET.to (EW.et (EW.and (k1 := false) (k2 := true) (ET.to (ET.cm (EV.nm 3) EV.str CS.eqS) (by decide)) (fun z => nomatch z) (fun _ => rfl))) rfl) SB.nil) (SB.cons (ST.no (ET.to (EW.et (EW.and (k1 := false) (k2 := true) (ET.to (ET.cm (EV.nm 3) EV.str CS.eqS) (by decide)) (fun z => nomatch z) (fun _ => rfl))) rfl) SB.nil) (SB.cons (ST.no (ET.to (EW.et (EW.and (k1 := false) (k2 := true) (ET.to (ET.cm (EV.nm 3) EV.str CS.eqS) (by decide)) (fun z => nomatch z) (fun _ => rfl))) rfl) SB.nil) (SB.cons (ST.no (ET.to (EW.et (EW.and (k1 := false) (k2 := true) (ET.to (ET.cm (EV.nm 3) (EV.lst (ds := (["divides", "not divides"] : List Str).map D.str) (EA.cons EV.str (EA.cons EV.str EA.nil)) (by decide)) CS.inStL) (by decide)) (fun z => nomatch z) (fun _ => rfl))) rfl) SB.nil) (SB.cons (ST.no (ET.to (EW.et (EW.and (k1 := false) (k2 := true) (ET.to (ET.cm (EV.nm 3) (EV.lst (ds := (["least", "less"] : List Str).map D.str) (EA.cons EV.str (EA.cons EV.str EA.nil)) (by decide)) CS.inStL) (by decide)) (fun z => nomatch z) (fun _ => rfl))) rfl) SB.nil) (SB.cons (ST.no (ET.to (EW.et (EW.and (k1 := false) (k2 := true) (ET.to (ET.cm (EV.nm 3) EV.str CS.eqS) (by decide)) (fun z => nomatch z) (fun _ => rfl))) rfl) SB.nil) (SB.cons (E1 := [.adr 0, .dat (.tup [.str "product", tM a, tM b, tM c]), .dat (.int way), .dat (.str "product"), .dat (.int (1 + 0))]) (M1 := [rowC (dl 2 ns)]) (ST.set 4 (EV.to (EV.add EV.int (ev_tk (ns := dl 1 ns) T (EV.nm 0) EV.int rfl (by decide))) (by rw [ht])) c_law_spoilt.nd) (SB.cons (ST.no (ET.to (ET.cm (EV.nm 3) (EV.lst (ds := (["divides", "not divides"] : List Str).map D.str) (EA.cons EV.str (EA.cons EV.str EA.nil)) (by decide)) CS.inStL) (by decide)) SB.nil) (SB.cons (ST.no (ET.to (ET.cm (EV.nm 3) (EV.lst (ds := (["least", "less"] : List Str).map D.str) (EA.cons EV.str (EA.cons EV.str EA.nil)) (by decide)) CS.inStL) (by decide)) SB.nil) (SB.cons (ST.no (ET.to (ET.cm (EV.nm 3) EV.str CS.eqS) (by decide)) SB.nil) (SB.cons (ST.no (ET.to (ET.cm (EV.nm 3) EV.str CS.eqS) (by decide)) SB.nil) (SB.one (ST.ret (EV.to (o' := .dat (.tup [.str "product", tM B, tM b, tM c])) (EV.bin (EV.bin (EV.to (o' := .dat (.tup [.str "product"])) (EV.slT (EV.nm 1) EO.none (EO.some (EV.nm 4))) rfl) (EV.tup (ds := [tM B]) (EA.cons (EV.call1' (n := 0) (ds := [tM a]) (cs := (dl 2 ns).map D.int) (cs' := n3.map D.int) (fn_moved W) (EA.cons (EV.nm 0) (EA.cons (EV.ix (EV.nm 1) (EV.nm 4) x1) EA.nil)) rfl ⟨rfl, hrun⟩) EA.nil) (by show 1 ≤ 100000; decide)) (BS.addT (by show 2 ≤ 100000; decide))) (EV.to (o' := .dat (.tup [tM b, tM c])) (EV.slT (EV.nm 1) (EO.some (EV.add (EV.nm 4) EV.int)) EO.none) rfl) (BS.addT (by show 4 ≤ 100000; decide))) rfl))))))))))))))))⟩
    · obtain ⟨B, n3, wB, hbn, hrun⟩ := moved_run W hb (dl 2 ns)
      exact ⟨.tup [.str "product", tM a, tM B, tM c], n3, dm_cl (CL.product ha wB hc) (mildP (BnM.ok sa.bn (hbn sb))), SB.cons (ST.set 3 (EV.ix (EV.nm 1) EV.int x0) c_law_spoilt.nd) (SB.cons (ST.no (ET.to (EW.et (EW.and (k1 := true) (ET.to (ET.cm (EV.nm 3) EV.str CS.eqS) (by decide)) (fun _ => EW.and1 (ET.to (ET.cm (EV.nm 2) EV.int CS.eqI) (decide_eq_false e3))) (fun z => nomatch z))) rfl) SB.nil) (SB.cons (ST.no (ET.to (EW.et (EW.and (k1 := false) (k2 := true) (ET.to (ET.cm (EV.nm 3) EV.str CS.eqS) (by decide)) (fun z => nomatch z) (fun _ => rfl))) rfl) SB.nil) (SB.cons (ST.no (ET.to (EW.et (EW.and (k1 := false) (k2 := true) (ET.to (ET.cm (EV.nm 3) EV.str CS.eqS) (by decide)) (fun z => nomatch z) (fun _ => rfl))) rfl) SB.nil) (SB.cons (ST.no (ET.to (EW.et (EW.and (k1 := false) (k2 := true) (ET.to (ET.cm (EV.nm 3) EV.str CS.eqS) (by decide)) (fun z => nomatch z) (fun _ => rfl))) rfl) SB.nil) (SB.cons (ST.no (ET.to (EW.et (EW.and (k1 := false) (k2 := true) (ET.to (ET.cm (EV.nm 3) EV.str CS.eqS) (by decide)) (fun z => nomatch z) (fun _ => rfl))) rfl) SB.nil) (SB.cons (ST.no (ET.to (EW.et (EW.and (k1 := false) (k2 := true) (ET.to (ET.cm (EV.nm 3) (EV.lst (ds := (["divides", "not divides"] : List Str).map D.str) (EA.cons EV.str (EA.cons EV.str EA.nil)) (by decide)) CS.inStL) (by decide)) (fun z => nomatch z) (fun _ => rfl))) rfl) SB.nil) (SB.cons (ST.no (ET.to (EW.et (EW.and (k1 := false) (k2 := true) (ET.to (ET.cm (EV.nm 3) (EV.lst (ds := (["least", "less"] : List Str).map D.str) (EA.cons EV.str (EA.cons EV.str EA.nil)) (by decide)) CS.inStL) (by decide)) (fun z => nomatch z) (fun _ => rfl))) rfl) SB.nil) (SB.cons (ST.no (ET.to (EW.et (EW.and (k1 := false) (k2 := true) (ET.to (ET.cm (EV.nm 3) EV.str CS.eqS) (by decide)) (fun z => nomatch z) (fun _ => rfl))) rfl) SB.nil) (SB.cons (E1 := [.adr 0, .dat (.tup [.str "product", tM a, tM b, tM c]), .dat (.int way), .dat (.str "product"), .dat (.int (1 + 1))]) (M1 := [rowC (dl 2 ns)]) (ST.set 4 (EV.to (EV.add EV.int (ev_tk (ns := dl 1 ns) T (EV.nm 0) EV.int rfl (by decide))) (by rw [ht])) c_law_spoilt.nd) (SB.cons (ST.no (ET.to (ET.cm (EV.nm 3) (EV.lst (ds := (["divides", "not divides"] : List Str).map D.str) (EA.cons EV.str (EA.cons EV.str EA.nil)) (by decide)) CS.inStL) (by decide)) SB.nil) (SB.cons (ST.no (ET.to (ET.cm (EV.nm 3) (EV.lst (ds := (["least", "less"] : List Str).map D.str) (EA.cons EV.str (EA.cons EV.str EA.nil)) (by decide)) CS.inStL) (by decide)) SB.nil) (SB.cons (ST.no (ET.to (ET.cm (EV.nm 3) EV.str CS.eqS) (by decide)) SB.nil) (SB.cons (ST.no (ET.to (ET.cm (EV.nm 3) EV.str CS.eqS) (by decide)) SB.nil) (SB.one (ST.ret (EV.to (o' := .dat (.tup [.str "product", tM a, tM B, tM c])) (EV.bin (EV.bin (EV.to (o' := .dat (.tup [.str "product", tM a])) (EV.slT (EV.nm 1) EO.none (EO.some (EV.nm 4))) rfl) (EV.tup (ds := [tM B]) (EA.cons (EV.call1' (n := 0) (ds := [tM b]) (cs := (dl 2 ns).map D.int) (cs' := n3.map D.int) (fn_moved W) (EA.cons (EV.nm 0) (EA.cons (EV.ix (EV.nm 1) (EV.nm 4) x2) EA.nil)) rfl ⟨rfl, hrun⟩) EA.nil) (by show 1 ≤ 100000; decide)) (BS.addT (by show 3 ≤ 100000; decide))) (EV.to (o' := .dat (.tup [tM c])) (EV.slT (EV.nm 1) (EO.some (EV.add (EV.nm 4) EV.int)) EO.none) rfl) (BS.addT (by show 4 ≤ 100000; decide))) rfl))))))))))))))))⟩
    · obtain ⟨B, n3, wB, hbn, hrun⟩ := moved_run W hc (dl 2 ns)
      exact ⟨.tup [.str "product", tM a, tM b, tM B], n3, dm_cl (CL.product ha hb wB) (mildP (BnM.ok sa.bn sb.bn)), SB.cons (ST.set 3 (EV.ix (EV.nm 1) EV.int x0) c_law_spoilt.nd) (SB.cons (ST.no (ET.to (EW.et (EW.and (k1 := true) (ET.to (ET.cm (EV.nm 3) EV.str CS.eqS) (by decide)) (fun _ => EW.and1 (ET.to (ET.cm (EV.nm 2) EV.int CS.eqI) (decide_eq_false e3))) (fun z => nomatch z))) rfl) SB.nil) (SB.cons (ST.no (ET.to (EW.et (EW.and (k1 := false) (k2 := true) (ET.to (ET.cm (EV.nm 3) EV.str CS.eqS) (by decide)) (fun z => nomatch z) (fun _ => rfl))) rfl) SB.nil) (SB.cons (ST.no (ET.to (EW.et (EW.and (k1 := false) (k2 := true) (ET.to (ET.cm (EV.nm 3) EV.str CS.eqS) (by decide)) (fun z => nomatch z) (fun _ => rfl))) rfl) SB.nil) (SB.cons (ST.no (ET.to (EW.et (EW.and (k1 := false) (k2 := true) (ET.to (ET.cm (EV.nm 3) EV.str CS.eqS) (by decide)) (fun z => nomatch z) (fun _ => rfl))) rfl) SB.nil) (SB.cons (ST.no (ET.to (EW.et (EW.and (k1 := false) (k2 := true) (ET.to (ET.cm (EV.nm 3) EV.str CS.eqS) (by decide)) (fun z => nomatch z) (fun _ => rfl))) rfl) SB.nil) (SB.cons (ST.no (ET.to (EW.et (EW.and (k1 := false) (k2 := true) (ET.to (ET.cm (EV.nm 3) (EV.lst (ds := (["divides", "not divides"] : List Str).map D.str) (EA.cons EV.str (EA.cons EV.str EA.nil)) (by decide)) CS.inStL) (by decide)) (fun z => nomatch z) (fun _ => rfl))) rfl) SB.nil) (SB.cons (ST.no (ET.to (EW.et (EW.and (k1 := false) (k2 := true) (ET.to (ET.cm (EV.nm 3) (EV.lst (ds := (["least", "less"] : List Str).map D.str) (EA.cons EV.str (EA.cons EV.str EA.nil)) (by decide)) CS.inStL) (by decide)) (fun z => nomatch z) (fun _ => rfl))) rfl) SB.nil) (SB.cons (ST.no (ET.to (EW.et (EW.and (k1 := false) (k2 := true) (ET.to (ET.cm (EV.nm 3) EV.str CS.eqS) (by decide)) (fun z => nomatch z) (fun _ => rfl))) rfl) SB.nil) (SB.cons (E1 := [.adr 0, .dat (.tup [.str "product", tM a, tM b, tM c]), .dat (.int way), .dat (.str "product"), .dat (.int (1 + 2))]) (M1 := [rowC (dl 2 ns)]) (ST.set 4 (EV.to (EV.add EV.int (ev_tk (ns := dl 1 ns) T (EV.nm 0) EV.int rfl (by decide))) (by rw [ht])) c_law_spoilt.nd) (SB.cons (ST.no (ET.to (ET.cm (EV.nm 3) (EV.lst (ds := (["divides", "not divides"] : List Str).map D.str) (EA.cons EV.str (EA.cons EV.str EA.nil)) (by decide)) CS.inStL) (by decide)) SB.nil) (SB.cons (ST.no (ET.to (ET.cm (EV.nm 3) (EV.lst (ds := (["least", "less"] : List Str).map D.str) (EA.cons EV.str (EA.cons EV.str EA.nil)) (by decide)) CS.inStL) (by decide)) SB.nil) (SB.cons (ST.no (ET.to (ET.cm (EV.nm 3) EV.str CS.eqS) (by decide)) SB.nil) (SB.cons (ST.no (ET.to (ET.cm (EV.nm 3) EV.str CS.eqS) (by decide)) SB.nil) (SB.one (ST.ret (EV.to (o' := .dat (.tup [.str "product", tM a, tM b, tM B])) (EV.bin (EV.bin (EV.to (o' := .dat (.tup [.str "product", tM a, tM b])) (EV.slT (EV.nm 1) EO.none (EO.some (EV.nm 4))) rfl) (EV.tup (ds := [tM B]) (EA.cons (EV.call1' (n := 0) (ds := [tM c]) (cs := (dl 2 ns).map D.int) (cs' := n3.map D.int) (fn_moved W) (EA.cons (EV.nm 0) (EA.cons (EV.ix (EV.nm 1) (EV.nm 4) x3) EA.nil)) rfl ⟨rfl, hrun⟩) EA.nil) (by show 1 ≤ 100000; decide)) (BS.addT (by show 4 ≤ 100000; decide))) (EV.to (o' := .dat (.tup [])) (EV.slT (EV.nm 1) (EO.some (EV.add (EV.nm 4) EV.int)) EO.none) rfl) (BS.addT (by show 4 ≤ 100000; decide))) rfl))))))))))))))))⟩
  | @same a ha =>
    have x0 : ixD (.tup [.str "same", tM a, tM a]) ((0 : Nat) : Int) = some (.str "same") := atI_nat rfl
    have x1 : ixD (.tup [.str "same", tM a, tM a]) ((1 : Nat) : Int) = some (tM a) := atI_nat rfl
    have x2 : ixD (.tup [.str "same", tM a, tM a]) ((2 : Nat) : Int) = some (tM a) := atI_nat rfl
    have x20 : ixD (tM a) ((0 : Nat) : Int) = some (tV (a.headD [])) := ix_tM0 ha.ne
    by_cases e2 : way = 2
    · exact ⟨.tup [.str "same", tM a, tM (a ++ [a.headD []])], dl 1 ns, dm_more ha, SB.cons (ST.set 3 (EV.ix (EV.nm 1) EV.int x0) c_law_spoilt.nd) (SB.cons (ST.no (ET.to (EW.et (EW.and (k1 := false) (k2 := true) (ET.to (ET.cm (EV.nm 3) EV.str CS.eqS) (by decide)) (fun z => nomatch z) (fun _ => rfl))) rfl) SB.nil) (SB.cons (ST.no (ET.to (EW.et (EW.and (k1 := false) (k2 := true) (ET.to (ET.cm (EV.nm 3) EV.str CS.eqS) (by decide)) (fun z => nomatch z) (fun _ => rfl))) rfl) SB.nil) (SB.cons (ST.no (ET.to (EW.et (EW.and (k1 := false) (k2 := true) (ET.to (ET.cm (EV.nm 3) EV.str CS.eqS) (by decide)) (fun z => nomatch z) (fun _ => rfl))) rfl) SB.nil) (SB.cons (ST.no (ET.to (EW.et (EW.and (k1 := false) (k2 := true) (ET.to (ET.cm (EV.nm 3) EV.str CS.eqS) (by decide)) (fun z => nomatch z) (fun _ => rfl))) rfl) SB.nil) (SB.cons (ST.no (ET.to (EW.et (EW.and (k1 := false) (k2 := true) (ET.to (ET.cm (EV.nm 3) EV.str CS.eqS) (by decide)) (fun z => nomatch z) (fun _ => rfl))) rfl) SB.nil) (SB.cons (ST.no (ET.to (EW.et (EW.and (k1 := false) (k2 := true) (ET.to (ET.cm (EV.nm 3) (EV.lst (ds := (["divides", "not divides"] : List Str).map D.str) (EA.cons EV.str (EA.cons EV.str EA.nil)) (by decide)) CS.inStL) (by decide)) (fun z => nomatch z) (fun _ => rfl))) rfl) SB.nil) (SB.cons (ST.no (ET.to (EW.et (EW.and (k1 := false) (k2 := true) (ET.to (ET.cm (EV.nm 3) (EV.lst (ds := (["least", "less"] : List Str).map D.str) (EA.cons EV.str (EA.cons EV.str EA.nil)) (by decide)) CS.inStL) (by decide)) (fun z => nomatch z) (fun _ => rfl))) rfl) SB.nil) (SB.stop (ST.yes (ET.to (EW.et (EW.and (k1 := true) (ET.to (ET.cm (EV.nm 3) EV.str CS.eqS) (by decide)) (fun _ => EW.and1 (ET.to (ET.cm (EV.nm 2) EV.int CS.eqI) (decide_eq_true e2))) (fun z => nomatch z))) rfl) (SB.one (ST.ret (EV.tup (ds := [.str "same", tM a, tM (a ++ [a.headD []])]) (EA.cons (EV.str) (EA.cons (EV.ix (EV.nm 1) EV.int x1) (EA.cons (EV.to (EV.bin (EV.ix (EV.nm 1) EV.int x2) (EV.tup (ds := [tV (a.headD [])]) (EA.cons (EV.ix (EV.ix (EV.nm 1) EV.int x2) EV.int x20) EA.nil) (by show 1 ≤ 100000; decide)) (BS.addT (by have := ha.l; rw [List.length_map]; show _ + 1 ≤ _; omega))) (by show O.dat (.tup _) = O.dat (.tup ((a ++ [a.headD []]).map tV)); rw [List.map_append]; rfl)) (EA.nil)))) (by show 3 ≤ 100000; decide)))))))))))))⟩
    have ht3 : t = 0 ∨ t = 1 ∨ t = 2 := by omega
    obtain ⟨B, n3, wB, hbn, hrun⟩ := moved_run W ha (dl 2 ns)
    rcases ht3 with rfl | rfl | rfl
    · exact ⟨.tup [.str "same", tM a, tM B], n3, dm_cl (CL.same ha wB) mild3, SB.cons (ST.set 3 (EV.ix (EV.nm 1) EV.int x0) c_law_spoilt.nd) (SB.cons (ST.no (ET.to (EW.et (EW.and (k1 := false) (k2 := true) (ET.to (ET.cm (EV.nm 3) EV.str CS.eqS) (by decide)) (fun z => nomatch z) (fun _ => rfl))) rfl) SB.nil) (SB.cons (ST.no (ET.to (EW.et (EW.and (k1 := false) (k2 := true) (ET.to (ET.cm (EV.nm 3) EV.str CS.eqS) (by decide)) (fun z => nomatch z) (fun _ => rfl))) rfl) SB.nil) (SB.cons (ST.no (ET.to (EW.et (EW.and (k1 := false) (k2 := true) (ET.to (ET.cm (EV.nm 3) EV.str CS.eqS) (by decide)) (fun z => nomatch z) (fun _ => rfl))) rfl) SB.nil) (SB.cons (ST.no (ET.to (EW.et (EW.and (k1 := false) (k2 := true) (ET.to (ET.cm (EV.nm 3) EV.str CS.eqS) (by decide)) (fun z => nomatch z) (fun _ => rfl))) rfl) SB.nil) (SB.cons (ST.no (ET.to (EW.et (EW.and (k1 := false) (k2 := true) (ET.to (ET.cm (EV.nm 3) EV.str CS.eqS) (by decide)) (fun z => nomatch z) (fun _ => rfl))) rfl) SB.nil) (SB.cons (ST.no (ET.to (EW.et (EW.and (k1 := false) (k2 := true) (ET.to (ET.cm (EV.nm 3) (EV.lst (ds := (["divides", "not divides"] : List Str).map D.str) (EA.cons EV.str (EA.cons EV.str EA.nil)) (by decide)) CS.inStL) (by decide)) (fun z => nomatch z) (fun _ => rfl))) rfl) SB.nil) (SB.cons (ST.no (ET.to (EW.et (EW.and (k1 := false) (k2 := true) (ET.to (ET.cm (EV.nm 3) (EV.lst (ds := (["least", "less"] : List Str).map D.str) (EA.cons EV.str (EA.cons EV.str EA.nil)) (by decide)) CS.inStL) (by decide)) (fun z => nomatch z) (fun _ => rfl))) rfl) SB.nil) (SB.cons (ST.no (ET.to (EW.et (EW.and (k1 := true) (ET.to (ET.cm (EV.nm 3) EV.str CS.eqS) (by decide)) (fun _ => EW.and1 (ET.to (ET.cm (EV.nm 2) EV.int CS.eqI) (decide_eq_false e2))) (fun z => nomatch z))) rfl) SB.nil) (SB.cons (E1 := [.adr 0, .dat (.tup [.str "same", tM a, tM a]), .dat (.int way), .dat (.str "same"), .dat (.int (1 + 0))]) (M1 := [rowC (dl 2 ns)]) (ST.set 4 (EV.to (EV.add EV.int (ev_tk (ns := dl 1 ns) T (EV.nm 0) EV.int rfl (by decide))) (by rw [ht])) c_law_spoilt.nd) (SB.cons (ST.no (ET.to (ET.cm (EV.nm 3) (EV.lst (ds := (["divides", "not divides"] : List Str).map D.str) (EA.cons EV.str (EA.cons EV.str EA.nil)) (by decide)) CS.inStL) (by decide)) SB.nil) (SB.cons (ST.no (ET.to (ET.cm (EV.nm 3) (EV.lst (ds := (["least", "less"] : List Str).map D.str) (EA.cons EV.str (EA.cons EV.str EA.nil)) (by decide)) CS.inStL) (by decide)) SB.nil) (SB.cons (ST.no (ET.to (ET.cm (EV.nm 3) EV.str CS.eqS) (by decide)) SB.nil) (SB.cons (E1 := [.adr 0, .dat (.tup [.str "same", tM a, tM a]), .dat (.int way), .dat (.str "same"), .dat (.int 2)]) (M1 := [rowC (dl 2 ns)]) (ST.yes (ET.to (ET.cm (EV.nm 3) EV.str CS.eqS) (by decide)) (SB.one (ST.set 4 (EV.to (EV.add EV.int (EV.mod (EV.intI (EV.nm 4) W.b.int) EV.int (by decide))) rfl) c_law_spoilt.nd))) (SB.one (ST.ret (EV.to (o' := .dat (.tup [.str "same", tM a, tM B])) (EV.bin (EV.bin (EV.to (o' := .dat (.tup [.str "same", tM a])) (EV.slT (EV.nm 1) EO.none (EO.some (EV.nm 4))) rfl) (EV.tup (ds := [tM B]) (EA.cons (EV.call1' (n := 0) (ds := [tM a]) (cs := (dl 2 ns).map D.int) (cs' := n3.map D.int) (fn_moved W) (EA.cons (EV.nm 0) (EA.cons (EV.ix (EV.nm 1) (EV.nm 4) x2) EA.nil)) rfl ⟨rfl, hrun⟩) EA.nil) (by show 1 ≤ 100000; decide)) (BS.addT (by show 3 ≤ 100000; decide))) (EV.to (o' := .dat (.tup [])) (EV.slT (EV.nm 1) (EO.some (EV.add (EV.nm 4) EV.int)) EO.none) rfl) (BS.addT (by show 3 ≤ 100000; decide))) rfl))))))))))))))))⟩
    · exact ⟨.tup [.str "same", tM B, tM a], n3, dm_cl (CL.same wB ha) mild3, SB.cons (ST.set 3 (EV.ix (EV.nm 1) EV.int x0) c_law_spoilt.nd) (SB.cons (ST.no (ET.to (EW.et (EW.and (k1 := false) (k2 := true) (ET.to (ET.cm (EV.nm 3) EV.str CS.eqS) (by decide)) (fun z => nomatch z) (fun _ => rfl))) rfl) SB.nil) (SB.cons (ST.no (ET.to (EW.et (EW.and (k1 := false) (k2 := true) (ET.to (ET.cm (EV.nm 3) EV.str CS.eqS) (by decide)) (fun z => nomatch z) (fun _ => rfl))) rfl) SB.nil) (SB.cons (ST.no (ET.to (EW.et (EW.and (k1 := false) (k2 := true) (ET.to (ET.cm (EV.nm 3) EV.str CS.eqS) (by decide)) (fun z => nomatch z) (fun _ => rfl))) rfl) SB.nil) (SB.cons (ST.no (ET.to (EW.et (EW.and (k1 := false) (k2 := true) (ET.to (ET.cm (EV.nm 3) EV.str CS.eqS) (by decide)) (fun z => nomatch z) (fun _ => rfl))) rfl) SB.nil) (SB.cons (ST.no (ET.to (EW.et (EW.and (k1 := false) (k2 := true) (ET.to (ET.cm (EV.nm 3) EV.str CS.eqS) (by decide)) (fun z => nomatch z) (fun _ => rfl))) rfl) SB.nil) (SB.cons (ST.no (ET.to (EW.et (EW.and (k1 := false) (k2 := true) (ET.to (ET.cm (EV.nm 3) (EV.lst (ds := (["divides", "not divides"] : List Str).map D.str) (EA.cons EV.str (EA.cons EV.str EA.nil)) (by decide)) CS.inStL) (by decide)) (fun z => nomatch z) (fun _ => rfl))) rfl) SB.nil) (SB.cons (ST.no (ET.to (EW.et (EW.and (k1 := false) (k2 := true) (ET.to (ET.cm (EV.nm 3) (EV.lst (ds := (["least", "less"] : List Str).map D.str) (EA.cons EV.str (EA.cons EV.str EA.nil)) (by decide)) CS.inStL) (by decide)) (fun z => nomatch z) (fun _ => rfl))) rfl) SB.nil) (SB.cons (ST.no (ET.to (EW.et (EW.and (k1 := true) (ET.to (ET.cm (EV.nm 3) EV.str CS.eqS) (by decide)) (fun _ => EW.and1 (ET.to (ET.cm (EV.nm 2) EV.int CS.eqI) (decide_eq_false e2))) (fun z => nomatch z))) rfl) SB.nil) (SB.cons (E1 := [.adr 0, .dat (.tup [.str "same", tM a, tM a]), .dat (.int way), .dat (.str "same"), .dat (.int (1 + 1))]) (M1 := [rowC (dl 2 ns)]) (ST.set 4 (EV.to (EV.add EV.int (ev_tk (ns := dl 1 ns) T (EV.nm 0) EV.int rfl (by decide))) (by rw [ht])) c_law_spoilt.nd) (SB.cons (ST.no (ET.to (ET.cm (EV.nm 3) (EV.lst (ds := (["divides", "not divides"] : List Str).map D.str) (EA.cons EV.str (EA.cons EV.str EA.nil)) (by decide)) CS.inStL) (by decide)) SB.nil) (SB.cons (ST.no (ET.to (ET.cm (EV.nm 3) (EV.lst (ds := (["least", "less"] : List Str).map D.str) (EA.cons EV.str (EA.cons EV.str EA.nil)) (by decide)) CS.inStL) (by decide)) SB.nil) (SB.cons (ST.no (ET.to (ET.cm (EV.nm 3) EV.str CS.eqS) (by decide)) SB.nil) (SB.cons (E1 := [.adr 0, .dat (.tup [.str "same", tM a, tM a]), .dat (.int way), .dat (.str "same"), .dat (.int 1)]) (M1 := [rowC (dl 2 ns)]) (ST.yes (ET.to (ET.cm (EV.nm 3) EV.str CS.eqS) (by decide)) (SB.one (ST.set 4 (EV.to (EV.add EV.int (EV.mod (EV.intI (EV.nm 4) W.b.int) EV.int (by decide))) rfl) c_law_spoilt.nd))) (SB.one (ST.ret (EV.to (o' := .dat (.tup [.str "same", tM B, tM a])) (EV.bin (EV.bin (EV.to (o' := .dat (.tup [.str "same"])) (EV.slT (EV.nm 1) EO.none (EO.some (EV.nm 4))) rfl) (EV.tup (ds := [tM B]) (EA.cons (EV.call1' (n := 0) (ds := [tM a]) (cs := (dl 2 ns).map D.int) (cs' := n3.map D.int) (fn_moved W) (EA.cons (EV.nm 0) (EA.cons (EV.ix (EV.nm 1) (EV.nm 4) x1) EA.nil)) rfl ⟨rfl, hrun⟩) EA.nil) (by show 1 ≤ 100000; decide)) (BS.addT (by show 2 ≤ 100000; decide))) (EV.to (o' := .dat (.tup [tM a])) (EV.slT (EV.nm 1) (EO.some (EV.add (EV.nm 4) EV.int)) EO.none) rfl) (BS.addT (by show 3 ≤ 100000; decide))) rfl))))))))))))))))⟩
    · exact ⟨.tup [.str "same", tM a, tM B], n3, dm_cl (CL.same ha wB) mild3, SB.cons (ST.set 3 (EV.ix (EV.nm 1) EV.int x0) c_law_spoilt.nd) (SB.cons (ST.no (ET.to (EW.et (EW.and (k1 := false) (k2 := true) (ET.to (ET.cm (EV.nm 3) EV.str CS.eqS) (by decide)) (fun z => nomatch z) (fun _ => rfl))) rfl) SB.nil) (SB.cons (ST.no (ET.to (EW.et (EW.and (k1 := false) (k2 := true) (ET.to (ET.cm (EV.nm 3) EV.str CS.eqS) (by decide)) (fun z => nomatch z) (fun _ => rfl))) rfl) SB.nil) (SB.cons (ST.no (ET.to (EW.et (EW.and (k1 := false) (k2 := true) (ET.to (ET.cm (EV.nm 3) EV.str CS.eqS) (by decide)) (fun z => nomatch z) (fun _ => rfl))) rfl) SB.nil) (SB.cons (ST.no (ET.to (EW.et (EW.and (k1 := false) (k2 := true) (ET.to (ET.cm (EV.nm 3) EV.str CS.eqS) (by decide)) (fun z => nomatch z) (fun _ => rfl))) rfl) SB.nil) (SB.cons (ST.no (ET.to (EW.et (EW.and (k1 := false) (k2 := true) (ET.to (ET.cm (EV.nm 3) EV.str CS.eqS) (by decide)) (fun z => nomatch z) (fun _ => rfl))) rfl) SB.nil) (SB.cons (ST.no (ET.to (EW.et (EW.and (k1 := false) (k2 := true) (ET.to (ET.cm (EV.nm 3) (EV.lst (ds := (["divides", "not divides"] : List Str).map D.str) (EA.cons EV.str (EA.cons EV.str EA.nil)) (by decide)) CS.inStL) (by decide)) (fun z => nomatch z) (fun _ => rfl))) rfl) SB.nil) (SB.cons (ST.no (ET.to (EW.et (EW.and (k1 := false) (k2 := true) (ET.to (ET.cm (EV.nm 3) (EV.lst (ds := (["least", "less"] : List Str).map D.str) (EA.cons EV.str (EA.cons EV.str EA.nil)) (by decide)) CS.inStL) (by decide)) (fun z => nomatch z) (fun _ => rfl))) rfl) SB.nil) (SB.cons (ST.no (ET.to (EW.et (EW.and (k1 := true) (ET.to (ET.cm (EV.nm 3) EV.str CS.eqS) (by decide)) (fun _ => EW.and1 (ET.to (ET.cm (EV.nm 2) EV.int CS.eqI) (decide_eq_false e2))) (fun z => nomatch z))) rfl) SB.nil) (SB.cons (E1 := [.adr 0, .dat (.tup [.str "same", tM a, tM a]), .dat (.int way), .dat (.str "same"), .dat (.int (1 + 2))]) (M1 := [rowC (dl 2 ns)]) (ST.set 4 (EV.to (EV.add EV.int (ev_tk (ns := dl 1 ns) T (EV.nm 0) EV.int rfl (by decide))) (by rw [ht])) c_law_spoilt.nd) (SB.cons (ST.no (ET.to (ET.cm (EV.nm 3) (EV.lst (ds := (["divides", "not divides"] : List Str).map D.str) (EA.cons EV.str (EA.cons EV.str EA.nil)) (by decide)) CS.inStL) (by decide)) SB.nil) (SB.cons (ST.no (ET.to (ET.cm (EV.nm 3) (EV.lst (ds := (["least", "less"] : List Str).map D.str) (EA.cons EV.str (EA.cons EV.str EA.nil)) (by decide)) CS.inStL) (by decide)) SB.nil) (SB.cons (ST.no (ET.to (ET.cm (EV.nm 3) EV.str CS.eqS) (by decide)) SB.nil) (SB.cons (E1 := [.adr 0, .dat (.tup [.str "same", tM a, tM a]), .dat (.int way), .dat (.str "same"), .dat (.int 2)]) (M1 := [rowC (dl 2 ns)]) (ST.yes (ET.to (ET.cm (EV.nm 3) EV.str CS.eqS) (by decide)) (SB.one (ST.set 4 (EV.to (EV.add EV.int (EV.mod (EV.intI (EV.nm 4) W.b.int) EV.int (by decide))) rfl) c_law_spoilt.nd))) (SB.one (ST.ret (EV.to (o' := .dat (.tup [.str "same", tM a, tM B])) (EV.bin (EV.bin (EV.to (o' := .dat (.tup [.str "same", tM a])) (EV.slT (EV.nm 1) EO.none (EO.some (EV.nm 4))) rfl) (EV.tup (ds := [tM B]) (EA.cons (EV.call1' (n := 0) (ds := [tM a]) (cs := (dl 2 ns).map D.int) (cs' := n3.map D.int) (fn_moved W) (EA.cons (EV.nm 0) (EA.cons (EV.ix (EV.nm 1) (EV.nm 4) x2) EA.nil)) rfl ⟨rfl, hrun⟩) EA.nil) (by show 1 ≤ 100000; decide)) (BS.addT (by show 3 ≤ 100000; decide))) (EV.to (o' := .dat (.tup [])) (EV.slT (EV.nm 1) (EO.some (EV.add (EV.nm 4) EV.int)) EO.none) rfl) (BS.addT (by show 3 ≤ 100000; decide))) rfl))))))))))))))))⟩
  | @divides k m hk hm h =>
    have x0 : ixD (.tup [.str "divides", .int k, tM m]) ((0 : Nat) : Int) = some (.str "divides") := atI_nat rfl
    have x1 : ixD (.tup [.str "divides", .int k, tM m]) ((1 : Nat) : Int) = some (.int k) := atI_nat rfl
    have x2 : ixD (.tup [.str "divides", .int k, tM m]) ((2 : Nat) : Int) = some (tM m) := atI_nat rfl
    by_cases e3 : way = 3
    · exact ⟨.tup [.str "not divides", .int k, tM m], dl 1 ns, dm_cl (CL.notdiv hk hm) mild3, SB.cons (ST.set 3 (EV.ix (EV.nm 1) EV.int x0) c_law_spoilt.nd) (SB.cons (ST.no (ET.to (EW.et (EW.and (k1 := false) (k2 := true) (ET.to (ET.cm (EV.nm 3) EV.str CS.eqS) (by decide)) (fun z => nomatch z) (fun _ => rfl))) rfl) SB.nil) (SB.stop (ST.yes (ET.to (EW.et (EW.and (k1 := true) (ET.to (ET.cm (EV.nm 3) EV.str CS.eqS) (by decide)) (fun _ => EW.and1 (ET.to (ET.cm (EV.nm 2) EV.int CS.eqI) (decide_eq_true e3))) (fun z => nomatch z))) rfl) (SB.one (ST.ret (EV.tup (ds := [.str "not divides", .int k, tM m]) (EA.cons (EV.str) (EA.cons (EV.ix (EV.nm 1) EV.int x1) (EA.cons (EV.ix (EV.nm 1) EV.int x2) (EA.nil)))) (by show 3 ≤ 100000; decide)))))))⟩
    by_cases e2 : way = 2
    · exact ⟨.tup [.str "divides", .int ((k + pick (L4a k) (tk (dl 1 ns) 4)).natAbs : Int), tM m], dl 2 ns, dm_cl (CL.divides (by omega) hm) mild3, SB.cons (ST.set 3 (EV.ix (EV.nm 1) EV.int x0) c_law_spoilt.nd) (SB.cons (ST.no (ET.to (EW.et (EW.and (k1 := false) (k2 := true) (ET.to (ET.cm (EV.nm 3) EV.str CS.eqS) (by decide)) (fun z => nomatch z) (fun _ => rfl))) rfl) SB.nil) (SB.cons (ST.no (ET.to (EW.et (EW.and (k1 := true) (ET.to (ET.cm (EV.nm 3) EV.str CS.eqS) (by decide)) (fun _ => EW.and1 (ET.to (ET.cm (EV.nm 2) EV.int CS.eqI) (decide_eq_false e3))) (fun z => nomatch z))) rfl) SB.nil) (SB.cons (ST.no (ET.to (EW.et (EW.and (k1 := false) (k2 := true) (ET.to (ET.cm (EV.nm 3) EV.str CS.eqS) (by decide)) (fun z => nomatch z) (fun _ => rfl))) rfl) SB.nil) (SB.cons (ST.no (ET.to (EW.et (EW.and (k1 := false) (k2 := true) (ET.to (ET.cm (EV.nm 3) EV.str CS.eqS) (by decide)) (fun z => nomatch z) (fun _ => rfl))) rfl) SB.nil) (SB.cons (ST.no (ET.to (EW.et (EW.and (k1 := false) (k2 := true) (ET.to (ET.cm (EV.nm 3) EV.str CS.eqS) (by decide)) (fun z => nomatch z) (fun _ => rfl))) rfl) SB.nil) (SB.stop (ST.yes (ET.to (EW.et (EW.and (k1 := true) (ET.to (ET.cm (EV.nm 3) (EV.lst (ds := (["divides", "not divides"] : List Str).map D.str) (EA.cons EV.str (EA.cons EV.str EA.nil)) (by decide)) CS.inStL) (by decide)) (fun _ => EW.and1 (ET.to (ET.cm (EV.nm 2) EV.int CS.eqI) (decide_eq_true e2))) (fun z => nomatch z))) rfl) (SB.one (ST.ret (EV.tup (ds := [.str "divides", .int ((k + pick (L4a k) (tk (dl 1 ns) 4)).natAbs : Int), tM m]) (EA.cons (EV.nm 3) (EA.cons (EV.abs (EV.add (EV.ix (EV.nm 1) EV.int x1) (EV.ix (EV.lst (ds := (L4a k).map D.int) (EA.cons EV.int (EA.cons (EV.neg EV.int) (EA.cons EV.int (EA.cons (EV.sub EV.int (EV.ix (EV.nm 1) EV.int x1)) EA.nil)))) (by show 4 ≤ 100000; decide)) (ev_tk (ns := dl 1 ns) T (EV.nm 0) EV.int rfl (by decide)) (pick_at p4))) W.b.abs) (EA.cons (EV.ix (EV.nm 1) EV.int x2) (EA.nil)))) (by show 3 ≤ 100000; decide)))))))))))⟩
    obtain ⟨B, n3, wB, hbn, hrun⟩ := moved_run W hm (dl 2 ns)
    exact ⟨.tup [.str "divides", .int k, tM B], n3, dm_cl (CL.divides hk wB) mild3, SB.cons (ST.set 3 (EV.ix (EV.nm 1) EV.int x0) c_law_spoilt.nd) (SB.cons (ST.no (ET.to (EW.et (EW.and (k1 := false) (k2 := true) (ET.to (ET.cm (EV.nm 3) EV.str CS.eqS) (by decide)) (fun z => nomatch z) (fun _ => rfl))) rfl) SB.nil) (SB.cons (ST.no (ET.to (EW.et (EW.and (k1 := true) (ET.to (ET.cm (EV.nm 3) EV.str CS.eqS) (by decide)) (fun _ => EW.and1 (ET.to (ET.cm (EV.nm 2) EV.int CS.eqI) (decide_eq_false e3))) (fun z => nomatch z))) rfl) SB.nil) (SB.cons (ST.no (ET.to (EW.et (EW.and (k1 := false) (k2 := true) (ET.to (ET.cm (EV.nm 3) EV.str CS.eqS) (by decide)) (fun z => nomatch z) (fun _ => rfl))) rfl) SB.nil) (SB.cons (ST.no (ET.to (EW.et (EW.and (k1 := false) (k2 := true) (ET.to (ET.cm (EV.nm 3) EV.str CS.eqS) (by decide)) (fun z => nomatch z) (fun _ => rfl))) rfl) SB.nil) (SB.cons (ST.no (ET.to (EW.et (EW.and (k1 := false) (k2 := true) (ET.to (ET.cm (EV.nm 3) EV.str CS.eqS) (by decide)) (fun z => nomatch z) (fun _ => rfl))) rfl) SB.nil) (SB.cons (ST.no (ET.to (EW.et (EW.and (k1 := true) (ET.to (ET.cm (EV.nm 3) (EV.lst (ds := (["divides", "not divides"] : List Str).map D.str) (EA.cons EV.str (EA.cons EV.str EA.nil)) (by decide)) CS.inStL) (by decide)) (fun _ => EW.and1 (ET.to (ET.cm (EV.nm 2) EV.int CS.eqI) (decide_eq_false e2))) (fun z => nomatch z))) rfl) SB.nil) (SB.cons (ST.no (ET.to (EW.et (EW.and (k1 := false) (k2 := true) (ET.to (ET.cm (EV.nm 3) (EV.lst (ds := (["least", "less"] : List Str).map D.str) (EA.cons EV.str (EA.cons EV.str EA.nil)) (by decide)) CS.inStL) (by decide)) (fun z => nomatch z) (fun _ => rfl))) rfl) SB.nil) (SB.cons (ST.no (ET.to (EW.et (EW.and (k1 := false) (k2 := true) (ET.to (ET.cm (EV.nm 3) EV.str CS.eqS) (by decide)) (fun z => nomatch z) (fun _ => rfl))) rfl) SB.nil) (SB.cons (E1 := [.adr 0, .dat (.tup [.str "divides", .int k, tM m]), .dat (.int way), .dat (.str "divides"), .dat (.int (1 + t))]) (M1 := [rowC (dl 2 ns)]) (ST.set 4 (EV.to (EV.add EV.int (ev_tk (ns := dl 1 ns) T (EV.nm 0) EV.int rfl (by decide))) (by rw [ht])) c_law_spoilt.nd) (SB.stop (ST.yes (ET.to (ET.cm (EV.nm 3) (EV.lst (ds := (["divides", "not divides"] : List Str).map D.str) (EA.cons EV.str (EA.cons EV.str EA.nil)) (by decide)) CS.inStL) (by decide)) (SB.one (ST.ret (EV.tup (ds := [.str "divides", .int k, tM B]) (EA.cons (EV.nm 3) (EA.cons (EV.ix (EV.nm 1) EV.int x1) (EA.cons (EV.call1' (n := 0) (ds := [tM m]) (cs := (dl 2 ns).map D.int) (cs' := n3.map D.int) (fn_moved W) (EA.cons (EV.nm 0) (EA.cons (EV.ix (EV.nm 1) EV.int x2) EA.nil)) rfl ⟨rfl, hrun⟩) (EA.nil)))) (by show 3 ≤ 100000; decide)))))))))))))))⟩
  | @notdiv k m hk hm h =>
    have x0 : ixD (.tup [.str "not divides", .int k, tM m]) ((0 : Nat) : Int) = some (.str "not divides") := atI_nat rfl
    have x1 : ixD (.tup [.str "not divides", .int k, tM m]) ((1 : Nat) : Int) = some (.int k) := atI_nat rfl
    have x2 : ixD (.tup [.str "not divides", .int k, tM m]) ((2 : Nat) : Int) = some (tM m) := atI_nat rfl
    by_cases e3 : way = 3
    · exact ⟨.tup [.str "divides", .int k, tM m], dl 1 ns, dm_cl (CL.divides hk hm) mild3, SB.cons (ST.set 3 (EV.ix (EV.nm 1) EV.int x0) c_law_spoilt.nd) (SB.cons (ST.no (ET.to (EW.et (EW.and (k1 := false) (k2 := true) (ET.to (ET.cm (EV.nm 3) EV.str CS.eqS) (by decide)) (fun z => nomatch z) (fun _ => rfl))) rfl) SB.nil) (SB.cons (ST.no (ET.to (EW.et (EW.and (k1 := false) (k2 := true) (ET.to (ET.cm (EV.nm 3) EV.str CS.eqS) (by decide)) (fun z => nomatch z) (fun _ => rfl))) rfl) SB.nil) (SB.stop (ST.yes (ET.to (EW.et (EW.and (k1 := true) (ET.to (ET.cm (EV.nm 3) EV.str CS.eqS) (by decide)) (fun _ => EW.and1 (ET.to (ET.cm (EV.nm 2) EV.int CS.eqI) (decide_eq_true e3))) (fun z => nomatch z))) rfl) (SB.one (ST.ret (EV.tup (ds := [.str "divides", .int k, tM m]) (EA.cons (EV.str) (EA.cons (EV.ix (EV.nm 1) EV.int x1) (EA.cons (EV.ix (EV.nm 1) EV.int x2) (EA.nil)))) (by show 3 ≤ 100000; decide))))))))⟩
    by_cases e2 : way = 2
    · exact ⟨.tup [.str "not divides", .int ((k + pick (L4a k) (tk (dl 1 ns) 4)).natAbs : Int), tM m], dl 2 ns, dm_cl (CL.notdiv (by omega) hm) mild3, SB.cons (ST.set 3 (EV.ix (EV.nm 1) EV.int x0) c_law_spoilt.nd) (SB.cons (ST.no (ET.to (EW.et (EW.and (k1 := false) (k2 := true) (ET.to (ET.cm (EV.nm 3) EV.str CS.eqS) (by decide)) (fun z => nomatch z) (fun _ => rfl))) rfl) SB.nil) (SB.cons (ST.no (ET.to (EW.et (EW.and (k1 := false) (k2 := true) (ET.to (ET.cm (EV.nm 3) EV.str CS.eqS) (by decide)) (fun z => nomatch z) (fun _ => rfl))) rfl) SB.nil) (SB.cons (ST.no (ET.to (EW.et (EW.and (k1 := true) (ET.to (ET.cm (EV.nm 3) EV.str CS.eqS) (by decide)) (fun _ => EW.and1 (ET.to (ET.cm (EV.nm 2) EV.int CS.eqI) (decide_eq_false e3))) (fun z => nomatch z))) rfl) SB.nil) (SB.cons (ST.no (ET.to (EW.et (EW.and (k1 := false) (k2 := true) (ET.to (ET.cm (EV.nm 3) EV.str CS.eqS) (by decide)) (fun z => nomatch z) (fun _ => rfl))) rfl) SB.nil) (SB.cons (ST.no (ET.to (EW.et (EW.and (k1 := false) (k2 := true) (ET.to (ET.cm (EV.nm 3) EV.str CS.eqS) (by decide)) (fun z => nomatch z) (fun _ => rfl))) rfl) SB.nil) (SB.stop (ST.yes (ET.to (EW.et (EW.and (k1 := true) (ET.to (ET.cm (EV.nm 3) (EV.lst (ds := (["divides", "not divides"] : List Str).map D.str) (EA.cons EV.str (EA.cons EV.str EA.nil)) (by decide)) CS.inStL) (by decide)) (fun _ => EW.and1 (ET.to (ET.cm (EV.nm 2) EV.int CS.eqI) (decide_eq_true e2))) (fun z => nomatch z))) rfl) (SB.one (ST.ret (EV.tup (ds := [.str "not divides", .int ((k + pick (L4a k) (tk (dl 1 ns) 4)).natAbs : Int), tM m]) (EA.cons (EV.nm 3) (EA.cons (EV.abs (EV.add (EV.ix (EV.nm 1) EV.int x1) (EV.ix (EV.lst (ds := (L4a k).map D.int) (EA.cons EV.int (EA.cons (EV.neg EV.int) (EA.cons EV.int (EA.cons (EV.sub EV.int (EV.ix (EV.nm 1) EV.int x1)) EA.nil)))) (by show 4 ≤ 100000; decide)) (ev_tk (ns := dl 1 ns) T (EV.nm 0) EV.int rfl (by decide)) (pick_at p4))) W.b.abs) (EA.cons (EV.ix (EV.nm 1) EV.int x2) (EA.nil)))) (by show 3 ≤ 100000; decide)))))))))))⟩
    obtain ⟨B, n3, wB, hbn, hrun⟩ := moved_run W hm (dl 2 ns)
    exact ⟨.tup [.str "not divides", .int k, tM B], n3, dm_cl (CL.notdiv hk wB) mild3, SB.cons (ST.set 3 (EV.ix (EV.nm 1) EV.int x0) c_law_spoilt.nd) (SB.cons (ST.no (ET.to (EW.et (EW.and (k1 := false) (k2 := true) (ET.to (ET.cm (EV.nm 3) EV.str CS.eqS) (by decide)) (fun z => nomatch z) (fun _ => rfl))) rfl) SB.nil) (SB.cons (ST.no (ET.to (EW.et (EW.and (k1 := false) (k2 := true) (ET.to (ET.cm (EV.nm 3) EV.str CS.eqS) (by decide)) (fun z => nomatch z) (fun _ => rfl))) rfl) SB.nil) (SB.cons (ST.no (ET.to (EW.et (EW.and (k1 := true) (ET.to (ET.cm (EV.nm 3) EV.str CS.eqS) (by decide)) (fun _ => EW.and1 (ET.to (ET.cm (EV.nm 2) EV.int CS.eqI) (decide_eq_false e3))) (fun z => nomatch z))) rfl) SB.nil) (SB.cons (ST.no (ET.to (EW.et (EW.and (k1 := false) (k2 := true) (ET.to (ET.cm (EV.nm 3) EV.str CS.eqS) (by decide)) (fun z => nomatch z) (fun _ => rfl))) rfl) SB.nil) (SB.cons (ST.no (ET.to (EW.et (EW.and (k1 := false) (k2 := true) (ET.to (ET.cm (EV.nm 3) EV.str CS.eqS) (by decide)) (fun z => nomatch z) (fun _ => rfl))) rfl) SB.nil) (SB.cons (ST.no (ET.to (EW.et (EW.and (k1 := true) (ET.to (ET.cm (EV.nm 3) (EV.lst (ds := (["divides", "not divides"] : List Str).map D.str) (EA.cons EV.str (EA.cons EV.str EA.nil)) (by decide)) CS.inStL) (by decide)) (fun _ => EW.and1 (ET.to (ET.cm (EV.nm 2) EV.int CS.eqI) (decide_eq_false e2))) (fun z => nomatch z))) rfl) SB.nil) (SB.cons (ST.no (ET.to (EW.et (EW.and (k1 := false) (k2 := true) (ET.to (ET.cm (EV.nm 3) (EV.lst (ds := (["least", "less"] : List Str).map D.str) (EA.cons EV.str (EA.cons EV.str EA.nil)) (by decide)) CS.inStL) (by decide)) (fun z => nomatch z) (fun _ => rfl))) rfl) SB.nil) (SB.cons (ST.no (ET.to (EW.et (EW.and (k1 := false) (k2 := true) (ET.to (ET.cm (EV.nm 3) EV.str CS.eqS) (by decide)) (fun z => nomatch z) (fun _ => rfl))) rfl) SB.nil) (SB.cons (E1 := [.adr 0, .dat (.tup [.str "not divides", .int k, tM m]), .dat (.int way), .dat (.str "not divides"), .dat (.int (1 + t))]) (M1 := [rowC (dl 2 ns)]) (ST.set 4 (EV.to (EV.add EV.int (ev_tk (ns := dl 1 ns) T (EV.nm 0) EV.int rfl (by decide))) (by rw [ht])) c_law_spoilt.nd) (SB.stop (ST.yes (ET.to (ET.cm (EV.nm 3) (EV.lst (ds := (["divides", "not divides"] : List Str).map D.str) (EA.cons EV.str (EA.cons EV.str EA.nil)) (by decide)) CS.inStL) (by decide)) (SB.one (ST.ret (EV.tup (ds := [.str "not divides", .int k, tM B]) (EA.cons (EV.nm 3) (EA.cons (EV.ix (EV.nm 1) EV.int x1) (EA.cons (EV.call1' (n := 0) (ds := [tM m]) (cs := (dl 2 ns).map D.int) (cs' := n3.map D.int) (fn_moved W) (EA.cons (EV.nm 0) (EA.cons (EV.ix (EV.nm 1) EV.int x2) EA.nil)) rfl ⟨rfl, hrun⟩) (EA.nil)))) (by show 3 ≤ 100000; decide)))))))))))))))⟩
  | @least k m hm h =>
    have x0 : ixD (.tup [.str "least", tM m, .int k]) ((0 : Nat) : Int) = some (.str "least") := atI_nat rfl
    have x1 : ixD (.tup [.str "least", tM m, .int k]) ((1 : Nat) : Int) = some (tM m) := atI_nat rfl
    have x2 : ixD (.tup [.str "least", tM m, .int k]) ((2 : Nat) : Int) = some (.int k) := atI_nat rfl
    by_cases e3 : way = 3
    · exact ⟨.tup [.str "less", tM m, .int k], dl 1 ns, dm_cl (CL.less hm) mild3, SB.cons (ST.set 3 (EV.ix (EV.nm 1) EV.int x0) c_law_spoilt.nd) (SB.cons (ST.no (ET.to (EW.et (EW.and (k1 := false) (k2 := true) (ET.to (ET.cm (EV.nm 3) EV.str CS.eqS) (by decide)) (fun z => nomatch z) (fun _ => rfl))) rfl) SB.nil) (SB.cons (ST.no (ET.to (EW.et (EW.and (k1 := false) (k2 := true) (ET.to (ET.cm (EV.nm 3) EV.str CS.eqS) (by decide)) (fun z => nomatch z) (fun _ => rfl))) rfl) SB.nil) (SB.cons (ST.no (ET.to (EW.et (EW.and (k1 := false) (k2 := true) (ET.to (ET.cm (EV.nm 3) EV.str CS.eqS) (by decide)) (fun z => nomatch z) (fun _ => rfl))) rfl) SB.nil) (SB.stop (ST.yes (ET.to (EW.et (EW.and (k1 := true) (ET.to (ET.cm (EV.nm 3) EV.str CS.eqS) (by decide)) (fun _ => EW.and1 (ET.to (ET.cm (EV.nm 2) EV.int CS.eqI) (decide_eq_true e3))) (fun z => nomatch z))) rfl) (SB.one (ST.ret (EV.tup (ds := [.str "less", tM m, .int k]) (EA.cons (EV.str) (EA.cons (EV.ix (EV.nm 1) EV.int x1) (EA.cons (EV.ix (EV.nm 1) EV.int x2) (EA.nil)))) (by show 3 ≤ 100000; decide)))))))))⟩
    by_cases e2 : way = 2
    · exact ⟨.tup [.str "least", tM m, .int (k + pick L4b (tk (dl 1 ns) 4))], dl 2 ns, dm_cl (CL.least hm) mild3, SB.cons (ST.set 3 (EV.ix (EV.nm 1) EV.int x0) c_law_spoilt.nd) (SB.cons (ST.no (ET.to (EW.et (EW.and (k1 := false) (k2 := true) (ET.to (ET.cm (EV.nm 3) EV.str CS.eqS) (by decide)) (fun z => nomatch z) (fun _ => rfl))) rfl) SB.nil) (SB.cons (ST.no (ET.to (EW.et (EW.and (k1 := false) (k2 := true) (ET.to (ET.cm (EV.nm 3) EV.str CS.eqS) (by decide)) (fun z => nomatch z) (fun _ => rfl))) rfl) SB.nil) (SB.cons (ST.no (ET.to (EW.et (EW.and (k1 := false) (k2 := true) (ET.to (ET.cm (EV.nm 3) EV.str CS.eqS) (by decide)) (fun z => nomatch z) (fun _ => rfl))) rfl) SB.nil) (SB.cons (ST.no (ET.to (EW.et (EW.and (k1 := true) (ET.to (ET.cm (EV.nm 3) EV.str CS.eqS) (by decide)) (fun _ => EW.and1 (ET.to (ET.cm (EV.nm 2) EV.int CS.eqI) (decide_eq_false e3))) (fun z => nomatch z))) rfl) SB.nil) (SB.cons (ST.no (ET.to (EW.et (EW.and (k1 := false) (k2 := true) (ET.to (ET.cm (EV.nm 3) EV.str CS.eqS) (by decide)) (fun z => nomatch z) (fun _ => rfl))) rfl) SB.nil) (SB.cons (ST.no (ET.to (EW.et (EW.and (k1 := false) (k2 := true) (ET.to (ET.cm (EV.nm 3) (EV.lst (ds := (["divides", "not divides"] : List Str).map D.str) (EA.cons EV.str (EA.cons EV.str EA.nil)) (by decide)) CS.inStL) (by decide)) (fun z => nomatch z) (fun _ => rfl))) rfl) SB.nil) (SB.stop (ST.yes (ET.to (EW.et (EW.and (k1 := true) (ET.to (ET.cm (EV.nm 3) (EV.lst (ds := (["least", "less"] : List Str).map D.str) (EA.cons EV.str (EA.cons EV.str EA.nil)) (by decide)) CS.inStL) (by decide)) (fun _ => EW.and1 (ET.to (ET.cm (EV.nm 2) EV.int CS.eqI) (decide_eq_true e2))) (fun z => nomatch z))) rfl) (SB.one (ST.ret (EV.tup (ds := [.str "least", tM m, .int (k + pick L4b (tk (dl 1 ns) 4))]) (EA.cons (EV.nm 3) (EA.cons (EV.ix (EV.nm 1) EV.int x1) (EA.cons (EV.add (EV.ix (EV.nm 1) EV.int x2) (EV.ix (EV.lst (ds := L4b.map D.int) (EA.cons EV.int (EA.cons (EV.neg EV.int) (EA.cons EV.int (EA.cons (EV.pow EV.int EV.int ⟨by decide, by decide, by decide⟩) EA.nil)))) (by decide)) (ev_tk (ns := dl 1 ns) T (EV.nm 0) EV.int rfl (by decide)) (pick_at p4))) (EA.nil)))) (by show 3 ≤ 100000; decide))))))))))))⟩
    obtain ⟨B, n3, wB, hbn, hrun⟩ := moved_run W hm (dl 2 ns)
    exact ⟨.tup [.str "least", tM B, .int k], n3, dm_cl (CL.least wB) mild3, SB.cons (ST.set 3 (EV.ix (EV.nm 1) EV.int x0) c_law_spoilt.nd) (SB.cons (ST.no (ET.to (EW.et (EW.and (k1 := false) (k2 := true) (ET.to (ET.cm (EV.nm 3) EV.str CS.eqS) (by decide)) (fun z => nomatch z) (fun _ => rfl))) rfl) SB.nil) (SB.cons (ST.no (ET.to (EW.et (EW.and (k1 := false) (k2 := true) (ET.to (ET.cm (EV.nm 3) EV.str CS.eqS) (by decide)) (fun z => nomatch z) (fun _ => rfl))) rfl) SB.nil) (SB.cons (ST.no (ET.to (EW.et (EW.and (k1 := false) (k2 := true) (ET.to (ET.cm (EV.nm 3) EV.str CS.eqS) (by decide)) (fun z => nomatch z) (fun _ => rfl))) rfl) SB.nil) (SB.cons (ST.no (ET.to (EW.et (EW.and (k1 := true) (ET.to (ET.cm (EV.nm 3) EV.str CS.eqS) (by decide)) (fun _ => EW.and1 (ET.to (ET.cm (EV.nm 2) EV.int CS.eqI) (decide_eq_false e3))) (fun z => nomatch z))) rfl) SB.nil) (SB.cons (ST.no (ET.to (EW.et (EW.and (k1 := false) (k2 := true) (ET.to (ET.cm (EV.nm 3) EV.str CS.eqS) (by decide)) (fun z => nomatch z) (fun _ => rfl))) rfl) SB.nil) (SB.cons (ST.no (ET.to (EW.et (EW.and (k1 := false) (k2 := true) (ET.to (ET.cm (EV.nm 3) (EV.lst (ds := (["divides", "not divides"] : List Str).map D.str) (EA.cons EV.str (EA.cons EV.str EA.nil)) (by decide)) CS.inStL) (by decide)) (fun z => nomatch z) (fun _ => rfl))) rfl) SB.nil) (SB.cons (ST.no (ET.to (EW.et (EW.and (k1 := true) (ET.to (ET.cm (EV.nm 3) (EV.lst (ds := (["least", "less"] : List Str).map D.str) (EA.cons EV.str (EA.cons EV.str EA.nil)) (by decide)) CS.inStL) (by decide)) (fun _ => EW.and1 (ET.to (ET.cm (EV.nm 2) EV.int CS.eqI) (decide_eq_false e2))) (fun z => nomatch z))) rfl) SB.nil) (SB.cons (ST.no (ET.to (EW.et (EW.and (k1 := false) (k2 := true) (ET.to (ET.cm (EV.nm 3) EV.str CS.eqS) (by decide)) (fun z => nomatch z) (fun _ => rfl))) rfl) SB.nil) (SB.cons (E1 := [.adr 0, .dat (.tup [.str "least", tM m, .int k]), .dat (.int way), .dat (.str "least"), .dat (.int (1 + t))]) (M1 := [rowC (dl 2 ns)]) (ST.set 4 (EV.to (EV.add EV.int (ev_tk (ns := dl 1 ns) T (EV.nm 0) EV.int rfl (by decide))) (by rw [ht])) c_law_spoilt.nd) (SB.cons (ST.no (ET.to (ET.cm (EV.nm 3) (EV.lst (ds := (["divides", "not divides"] : List Str).map D.str) (EA.cons EV.str (EA.cons EV.str EA.nil)) (by decide)) CS.inStL) (by decide)) SB.nil) (SB.stop (ST.yes (ET.to (ET.cm (EV.nm 3) (EV.lst (ds := (["least", "less"] : List Str).map D.str) (EA.cons EV.str (EA.cons EV.str EA.nil)) (by decide)) CS.inStL) (by decide)) (SB.one (ST.ret (EV.tup (ds := [.str "least", tM B, .int k]) (EA.cons (EV.nm 3) (EA.cons (EV.call1' (n := 0) (ds := [tM m]) (cs := (dl 2 ns).map D.int) (cs' := n3.map D.int) (fn_moved W) (EA.cons (EV.nm 0) (EA.cons (EV.ix (EV.nm 1) EV.int x1) EA.nil)) rfl ⟨rfl, hrun⟩) (EA.cons (EV.ix (EV.nm 1) EV.int x2) (EA.nil)))) (by show 3 ≤ 100000; decide))))))))))))))))⟩
  | @less k m hm h =>
    have x0 : ixD (.tup [.str "less", tM m, .int k]) ((0 : Nat) : Int) = some (.str "less") := atI_nat rfl
    have x1 : ixD (.tup [.str "less", tM m, .int k]) ((1 : Nat) : Int) = some (tM m) := atI_nat rfl
    have x2 : ixD (.tup [.str "less", tM m, .int k]) ((2 : Nat) : Int) = some (.int k) := atI_nat rfl
    by_cases e3 : way = 3
    · exact ⟨.tup [.str "least", tM m, .int k], dl 1 ns, dm_cl (CL.least hm) mild3, SB.cons (ST.set 3 (EV.ix (EV.nm 1) EV.int x0) c_law_spoilt.nd) (SB.cons (ST.no (ET.to (EW.et (EW.and (k1 := false) (k2 := true) (ET.to (ET.cm (EV.nm 3) EV.str CS.eqS) (by decide)) (fun z => nomatch z) (fun _ => rfl))) rfl) SB.nil) (SB.cons (ST.no (ET.to (EW.et (EW.and (k1 := false) (k2 := true) (ET.to (ET.cm (EV.nm 3) EV.str CS.eqS) (by decide)) (fun z => nomatch z) (fun _ => rfl))) rfl) SB.nil) (SB.cons (ST.no (ET.to (EW.et (EW.and (k1 := false) (k2 := true) (ET.to (ET.cm (EV.nm 3) EV.str CS.eqS) (by decide)) (fun z => nomatch z) (fun _ => rfl))) rfl) SB.nil) (SB.cons (ST.no (ET.to (EW.et (EW.and (k1 := false) (k2 := true) (ET.to (ET.cm (EV.nm 3) EV.str CS.eqS) (by decide)) (fun z => nomatch z) (fun _ => rfl))) rfl) SB.nil) (SB.stop (ST.yes (ET.to (EW.et (EW.and (k1 := true) (ET.to (ET.cm (EV.nm 3) EV.str CS.eqS) (by decide)) (fun _ => EW.and1 (ET.to (ET.cm (EV.nm 2) EV.int CS.eqI) (decide_eq_true e3))) (fun z => nomatch z))) rfl) (SB.one (ST.ret (EV.tup (ds := [.str "least", tM m, .int k]) (EA.cons (EV.str) (EA.cons (EV.ix (EV.nm 1) EV.int x1) (EA.cons (EV.ix (EV.nm 1) EV.int x2) (EA.nil)))) (by show 3 ≤ 100000; decide))))))))))⟩
    by_cases e2 : way = 2
    · exact ⟨.tup [.str "less", tM m, .int (k + pick L4b (tk (dl 1 ns) 4))], dl 2 ns, dm_cl (CL.less hm) mild3, SB.cons (ST.set 3 (EV.ix (EV.nm 1) EV.int x0) c_law_spoilt.nd) (SB.cons (ST.no (ET.to (EW.et (EW.and (k1 := false) (k2 := true) (ET.to (ET.cm (EV.nm 3) EV.str CS.eqS) (by decide)) (fun z => nomatch z) (fun _ => rfl))) rfl) SB.nil) (SB.cons (ST.no (ET.to (EW.et (EW.and (k1 := false) (k2 := true) (ET.to (ET.cm (EV.nm 3) EV.str CS.eqS) (by decide)) (fun z => nomatch z) (fun _ => rfl))) rfl) SB.nil) (SB.cons (ST.no (ET.to (EW.et (EW.and (k1 := false) (k2 := true) (ET.to (ET.cm (EV.nm 3) EV.str CS.eqS) (by decide)) (fun z => nomatch z) (fun _ => rfl))) rfl) SB.nil) (SB.cons (ST.no (ET.to (EW.et (EW.and (k1 := false) (k2 := true) (ET.to (ET.cm (EV.nm 3) EV.str CS.eqS) (by decide)) (fun z => nomatch z) (fun _ => rfl))) rfl) SB.nil) (SB.cons (ST.no (ET.to (EW.et (EW.and (k1 := true) (ET.to (ET.cm (EV.nm 3) EV.str CS.eqS) (by decide)) (fun _ => EW.and1 (ET.to (ET.cm (EV.nm 2) EV.int CS.eqI) (decide_eq_false e3))) (fun z => nomatch z))) rfl) SB.nil) (SB.cons (ST.no (ET.to (EW.et (EW.and (k1 := false) (k2 := true) (ET.to (ET.cm (EV.nm 3) (EV.lst (ds := (["divides", "not divides"] : List Str).map D.str) (EA.cons EV.str (EA.cons EV.str EA.nil)) (by decide)) CS.inStL) (by decide)) (fun z => nomatch z) (fun _ => rfl))) rfl) SB.nil) (SB.stop (ST.yes (ET.to (EW.et (EW.and (k1 := true) (ET.to (ET.cm (EV.nm 3) (EV.lst (ds := (["least", "less"] : List Str).map D.str) (EA.cons EV.str (EA.cons EV.str EA.nil)) (by decide)) CS.inStL) (by decide)) (fun _ => EW.and1 (ET.to (ET.cm (EV.nm 2) EV.int CS.eqI) (decide_eq_true e2))) (fun z => nomatch z))) rfl) (SB.one (ST.ret (EV.tup (ds := [.str "less", tM m, .int (k + pick L4b (tk (dl 1 ns) 4))]) (EA.cons (EV.nm 3) (EA.cons (EV.ix (EV.nm 1) EV.int x1) (EA.cons (EV.add (EV.ix (EV.nm 1) EV.int x2) (EV.ix (EV.lst (ds := L4b.map D.int) (EA.cons EV.int (EA.cons (EV.neg EV.int) (EA.cons EV.int (EA.cons (EV.pow EV.int EV.int ⟨by decide, by decide, by decide⟩) EA.nil)))) (by decide)) (ev_tk (ns := dl 1 ns) T (EV.nm 0) EV.int rfl (by decide)) (pick_at p4))) (EA.nil)))) (by show 3 ≤ 100000; decide))))))))))))⟩
    obtain ⟨B, n3, wB, hbn, hrun⟩ := moved_run W hm (dl 2 ns)
    exact ⟨.tup [.str "less", tM B, .int k], n3, dm_cl (CL.less wB) mild3, SB.cons (ST.set 3 (EV.ix (EV.nm 1) EV.int x0) c_law_spoilt.nd) (SB.cons (ST.no (ET.to (EW.et (EW.and (k1 := false) (k2 := true) (ET.to (ET.cm (EV.nm 3) EV.str CS.eqS) (by decide)) (fun z => nomatch z) (fun _ => rfl))) rfl) SB.nil) (SB.cons (ST.no (ET.to (EW.et (EW.and (k1 := false) (k2 := true) (ET.to (ET.cm (EV.nm 3) EV.str CS.eqS) (by decide)) (fun z => nomatch z) (fun _ => rfl))) rfl) SB.nil) (SB.cons (ST.no (ET.to (EW.et (EW.and (k1 := false) (k2 := true) (ET.to (ET.cm (EV.nm 3) EV.str CS.eqS) (by decide)) (fun z => nomatch z) (fun _ => rfl))) rfl) SB.nil) (SB.cons (ST.no (ET.to (EW.et (EW.and (k1 := false) (k2 := true) (ET.to (ET.cm (EV.nm 3) EV.str CS.eqS) (by decide)) (fun z => nomatch z) (fun _ => rfl))) rfl) SB.nil) (SB.cons (ST.no (ET.to (EW.et (EW.and (k1 := true) (ET.to (ET.cm (EV.nm 3) EV.str CS.eqS) (by decide)) (fun _ => EW.and1 (ET.to (ET.cm (EV.nm 2) EV.int CS.eqI) (decide_eq_false e3))) (fun z => nomatch z))) rfl) SB.nil) (SB.cons (ST.no (ET.to (EW.et (EW.and (k1 := false) (k2 := true) (ET.to (ET.cm (EV.nm 3) (EV.lst (ds := (["divides", "not divides"] : List Str).map D.str) (EA.cons EV.str (EA.cons EV.str EA.nil)) (by decide)) CS.inStL) (by decide)) (fun z => nomatch z) (fun _ => rfl))) rfl) SB.nil) (SB.cons (ST.no (ET.to (EW.et (EW.and (k1 := true) (ET.to (ET.cm (EV.nm 3) (EV.lst (ds := (["least", "less"] : List Str).map D.str) (EA.cons EV.str (EA.cons EV.str EA.nil)) (by decide)) CS.inStL) (by decide)) (fun _ => EW.and1 (ET.to (ET.cm (EV.nm 2) EV.int CS.eqI) (decide_eq_false e2))) (fun z => nomatch z))) rfl) SB.nil) (SB.cons (ST.no (ET.to (EW.et (EW.and (k1 := false) (k2 := true) (ET.to (ET.cm (EV.nm 3) EV.str CS.eqS) (by decide)) (fun z => nomatch z) (fun _ => rfl))) rfl) SB.nil) (SB.cons (E1 := [.adr 0, .dat (.tup [.str "less", tM m, .int k]), .dat (.int way), .dat (.str "less"), .dat (.int (1 + t))]) (M1 := [rowC (dl 2 ns)]) (ST.set 4 (EV.to (EV.add EV.int (ev_tk (ns := dl 1 ns) T (EV.nm 0) EV.int rfl (by decide))) (by rw [ht])) c_law_spoilt.nd) (SB.cons (ST.no (ET.to (ET.cm (EV.nm 3) (EV.lst (ds := (["divides", "not divides"] : List Str).map D.str) (EA.cons EV.str (EA.cons EV.str EA.nil)) (by decide)) CS.inStL) (by decide)) SB.nil) (SB.stop (ST.yes (ET.to (ET.cm (EV.nm 3) (EV.lst (ds := (["least", "less"] : List Str).map D.str) (EA.cons EV.str (EA.cons EV.str EA.nil)) (by decide)) CS.inStL) (by decide)) (SB.one (ST.ret (EV.tup (ds := [.str "less", tM B, .int k]) (EA.cons (EV.nm 3) (EA.cons (EV.call1' (n := 0) (ds := [tM m]) (cs := (dl 2 ns).map D.int) (cs' := n3.map D.int) (fn_moved W) (EA.cons (EV.nm 0) (EA.cons (EV.ix (EV.nm 1) EV.int x1) EA.nil)) rfl ⟨rfl, hrun⟩) (EA.cons (EV.ix (EV.nm 1) EV.int x2) (EA.nil)))) (by show 3 ≤ 100000; decide))))))))))))))))⟩
  | @echelon m hm h =>
    have x0 : ixD (.tup [.str "echelon", tM m]) ((0 : Nat) : Int) = some (.str "echelon") := atI_nat rfl
    have x1 : ixD (.tup [.str "echelon", tM m]) ((1 : Nat) : Int) = some (tM m) := atI_nat rfl
    obtain ⟨B, n3, wB, hbn, hrun⟩ := moved_run W hm (dl 2 ns)
    exact ⟨.tup [.str "echelon", tM B], n3, dm_cl (CL.echelon wB) mild2, SB.cons (ST.set 3 (EV.ix (EV.nm 1) EV.int x0) c_law_spoilt.nd) (SB.cons (ST.no (ET.to (EW.et (EW.and (k1 := false) (k2 := true) (ET.to (ET.cm (EV.nm 3) EV.str CS.eqS) (by decide)) (fun z => nomatch z) (fun _ => rfl))) rfl) SB.nil) (SB.cons (ST.no (ET.to (EW.et (EW.and (k1 := false) (k2 := true) (ET.to (ET.cm (EV.nm 3) EV.str CS.eqS) (by decide)) (fun z => nomatch z) (fun _ => rfl))) rfl) SB.nil) (SB.cons (ST.no (ET.to (EW.et (EW.and (k1 := false) (k2 := true) (ET.to (ET.cm (EV.nm 3) EV.str CS.eqS) (by decide)) (fun z => nomatch z) (fun _ => rfl))) rfl) SB.nil) (SB.cons (ST.no (ET.to (EW.et (EW.and (k1 := false) (k2 := true) (ET.to (ET.cm (EV.nm 3) EV.str CS.eqS) (by decide)) (fun z => nomatch z) (fun _ => rfl))) rfl) SB.nil) (SB.cons (ST.no (ET.to (EW.et (EW.and (k1 := false) (k2 := true) (ET.to (ET.cm (EV.nm 3) EV.str CS.eqS) (by decide)) (fun z => nomatch z) (fun _ => rfl))) rfl) SB.nil) (SB.cons (ST.no (ET.to (EW.et (EW.and (k1 := false) (k2 := true) (ET.to (ET.cm (EV.nm 3) (EV.lst (ds := (["divides", "not divides"] : List Str).map D.str) (EA.cons EV.str (EA.cons EV.str EA.nil)) (by decide)) CS.inStL) (by decide)) (fun z => nomatch z) (fun _ => rfl))) rfl) SB.nil) (SB.cons (ST.no (ET.to (EW.et (EW.and (k1 := false) (k2 := true) (ET.to (ET.cm (EV.nm 3) (EV.lst (ds := (["least", "less"] : List Str).map D.str) (EA.cons EV.str (EA.cons EV.str EA.nil)) (by decide)) CS.inStL) (by decide)) (fun z => nomatch z) (fun _ => rfl))) rfl) SB.nil) (SB.cons (ST.no (ET.to (EW.et (EW.and (k1 := false) (k2 := true) (ET.to (ET.cm (EV.nm 3) EV.str CS.eqS) (by decide)) (fun z => nomatch z) (fun _ => rfl))) rfl) SB.nil) (SB.cons (E1 := [.adr 0, .dat (.tup [.str "echelon", tM m]), .dat (.int way), .dat (.str "echelon"), .dat (.int (1 + t))]) (M1 := [rowC (dl 2 ns)]) (ST.set 4 (EV.to (EV.add EV.int (ev_tk (ns := dl 1 ns) T (EV.nm 0) EV.int rfl (by decide))) (by rw [ht])) c_law_spoilt.nd) (SB.cons (ST.no (ET.to (ET.cm (EV.nm 3) (EV.lst (ds := (["divides", "not divides"] : List Str).map D.str) (EA.cons EV.str (EA.cons EV.str EA.nil)) (by decide)) CS.inStL) (by decide)) SB.nil) (SB.cons (ST.no (ET.to (ET.cm (EV.nm 3) (EV.lst (ds := (["least", "less"] : List Str).map D.str) (EA.cons EV.str (EA.cons EV.str EA.nil)) (by decide)) CS.inStL) (by decide)) SB.nil) (SB.stop (ST.yes (ET.to (ET.cm (EV.nm 3) EV.str CS.eqS) (by decide)) (SB.one (ST.ret (EV.tup (ds := [.str "echelon", tM B]) (EA.cons (EV.nm 3) (EA.cons (EV.call1' (n := 0) (ds := [tM m]) (cs := (dl 2 ns).map D.int) (cs' := n3.map D.int) (fn_moved W) (EA.cons (EV.nm 0) (EA.cons (EV.ix (EV.nm 1) EV.int x1) EA.nil)) rfl ⟨rfl, hrun⟩) (EA.nil))) (by show 2 ≤ 100000; decide)))))))))))))))))⟩
theorem fn_spoilt (W : Wd g) : FN g "_law_spoilt" 3 (fun os M o M' => os.length = 2 ∧ Run g n_law_spoilt s_law_spoilt 2 os M o M') := FN.run (ps := ["row", "c"]) W.t_law_spoilt c_law_spoilt (fun _ _ _ _ _ _ us hl => match us, hl with | [_, _], _ => rfl)
end
section
variable {g : Pg}
theorem pickD {P : D → Prop} {ds : List D} {c : Int} (hc : 0 ≤ c ∧ c < ds.length) (h : ∀ d ∈ ds, P d) : ∃ X, atI ds c = some X ∧ P X := by
  obtain ⟨k, rfl⟩ : ∃ k : Nat, c = (k : Int) := ⟨c.toNat, by omega⟩
  have hk : k < ds.length := by omega
  exact ⟨ds[k], atI_nat (List.getElem?_eq_getElem hk), h _ (List.getElem_mem hk)⟩
abbrev tr3 (n m w : Int) : D := .tup [.int n, .int m, .int w]
abbrev L6 : List D := [tr3 64 1 64, tr3 1 64 1, tr3 64 2 1, tr3 2 1 64, tr3 63 1 3, tr3 1 64 2]
theorem thin_run (W : Wd g) (ns : List Int) : ∃ cs ns', cs.length = 5 ∧ (∀ c ∈ cs, Gd c) ∧ Run g n_law_thin s_law_thin 3 [.adr 0] [rowC ns] (.dat (.lst cs)) [rowC ns'] := by
  have T := ok_law_take W
  obtain ⟨X, hX, n, m, w, hn, hm, hw, rfl⟩ := pickD (P := fun d => ∃ n m w : Nat, (1 ≤ n ∧ n ≤ 64) ∧ (1 ≤ m ∧ m ≤ 64) ∧ (1 ≤ w ∧ w ≤ 64) ∧ d = tr3 (n : Int) (m : Int) (w : Int)) (ds := L6) (c := tk ns 6) (tk_pos (by decide)) (by
    intro d hd
    simp only [L6, List.mem_cons, List.not_mem_nil, or_false] at hd
    rcases hd with rfl | rfl | rfl | rfl | rfl | rfl
    · exact ⟨64, 1, 64, by decide, by decide, by decide, rfl⟩
    · exact ⟨1, 64, 1, by decide, by decide, by decide, rfl⟩
    · exact ⟨64, 2, 1, by decide, by decide, by decide, rfl⟩
    · exact ⟨2, 1, 64, by decide, by decide, by decide, rfl⟩
    · exact ⟨63, 1, 3, by decide, by decide, by decide, rfl⟩
    · exact ⟨1, 64, 2, by decide, by decide, by decide, rfl⟩)
  obtain ⟨A, n1, hA, hrunA⟩ := table_run W hn hm (dl 1 ns)
  obtain ⟨B, n2, hB, hrunB⟩ := table_run W (n := m) (m := w) hm hw n1
  obtain ⟨hG, hrunP⟩ := product_run W hA hB hn hm hw n2
  obtain ⟨S, n3, hS, hrunS⟩ := staircase_run W hn hm n2
  have hAl := hA.l
  have wA := hA.w64 hn hm
  have hsm : ∀ r ∈ A, r.length < 100000 := fun r hr => by rw [hA.w r hr]; omega
  have hrne : ∀ r ∈ A, r ≠ [] := fun r hr e => by
    have := hA.w r hr
    rw [e] at this
    simp at this
    omega
  have hmn : A.map mnL ≠ [] := fun e => by
    have := congrArg List.length e
    rw [List.length_map] at this
    simp at this
    rw [this] at hAl
    simp at hAl
    omega
  obtain ⟨h1, h2⟩ := mnL_spec hmn
  generalize hP : (.tup [.str "product", tM A, tM B, tM (mulM A B)] : D) = P at hG hrunP
  let c2 : D := .tup [.str "same", tM A, tM A]
  let c3 : D := .tup [.str "least", tM A, .int (mnL (A.map mnL))]
  let c5 : D := .tup [.str "divides", .int 1, tM A]
  have g2 : Gd c2 := .same wA
  have g3 : Gd c3 := .least wA (by
    rw [List.all_eq_true]
    intro x hx
    obtain ⟨r, hr, hx⟩ := List.mem_flatten.mp hx
    exact decide_eq_true (Int.le_trans (h2 _ (List.mem_map.mpr ⟨r, hr, rfl⟩)) ((mnL_spec (hrne r hr)).2 x hx)))
  have g5 : Gd c5 := .divides (by decide) wA (by
    rw [List.all_eq_true]
    intro x hx
    unfold partB
    rw [if_neg (by decide), Int.emod_one]
    rfl)
  let E := fun (o : O) => ([.adr 0, .dat (.int (n : Int)), .dat (.int (m : Int)), .dat (.int (w : Int)), .dat (lM A), o, .no] : List O)
  refine ⟨[P, c2, c3, S, c5], n3, rfl, ?_, Nat.le_refl _, True.intro, lowR, [none], ?_⟩
  · intro c hc
    simp only [List.mem_cons, List.not_mem_nil, or_false] at hc
    rcases hc with rfl | rfl | rfl | rfl | rfl
    · exact hG
    · exact g2
    · exact g3
    · exact hS
    · exact g5
  have s1 : ST (mkC g n_law_thin s_law_thin 3) ((defBody s_law_thin).getD 0 (.Pass ⟨0, 0, 0, 0⟩)) (pad n_law_thin [.adr 0]) [rowC ns] (.nx [.adr 0, .dat (.int (n : Int)), .dat (.int (m : Int)), .dat (.int (w : Int)), .no, .no, .no] [rowC (dl 1 ns)]) :=
    ST.asg (o := .dat (tr3 (n : Int) (m : Int) (w : Int))) (EV.ix (EV.lst (ds := L6) (EA.cons (EV.tup (ds := [.int 64, .int 1, .int 64]) (EA.cons EV.int (EA.cons EV.int (EA.cons EV.int EA.nil))) (by decide)) (EA.cons (EV.tup (ds := [.int 1, .int 64, .int 1]) (EA.cons EV.int (EA.cons EV.int (EA.cons EV.int EA.nil))) (by decide)) (EA.cons (EV.tup (ds := [.int 64, .int 2, .int 1]) (EA.cons EV.int (EA.cons EV.int (EA.cons EV.int EA.nil))) (by decide)) (EA.cons (EV.tup (ds := [.int 2, .int 1, .int 64]) (EA.cons EV.int (EA.cons EV.int (EA.cons EV.int EA.nil))) (by decide)) (EA.cons (EV.tup (ds := [.int 63, .int 1, .int 3]) (EA.cons EV.int (EA.cons EV.int (EA.cons EV.int EA.nil))) (by decide)) (EA.cons (EV.tup (ds := [.int 1, .int 64, .int 2]) (EA.cons EV.int (EA.cons EV.int (EA.cons EV.int EA.nil))) (by decide)) EA.nil)))))) (by decide)) (ev_tk (ns := ns) T (EV.nm 0) EV.int rfl (by decide)) hX) (EG.tup (ds := [.int (n : Int), .int (m : Int), .int (w : Int)]) (EGs.cons (EG.nm 1 c_law_thin.nd) (EGs.cons (EG.nm 2 c_law_thin.nd) (EGs.cons (EG.nm 3 c_law_thin.nd) EGs.nil))))
  refine SB.cons s1 (SB.cons (E1 := E .no) (M1 := [rowC n1]) (ST.set 4 (EV.call1' (n := 0) (ds := [.int (n : Int), .int (m : Int)]) (cs := (dl 1 ns).map D.int) (cs' := n1.map D.int) (fn_table W) (EA.cons (EV.nm 0) (EA.cons (EV.nm 1) (EA.cons (EV.nm 2) EA.nil))) rfl ⟨rfl, hrunA⟩) c_law_thin.nd) (SB.cons (E1 := E (.adr 1)) (M1 := [rowC n2, some [.dat P, .dat c2]]) (ST.set 5 (EV.cel (M' := [rowC n2]) (os := [.dat P, .dat c2]) (EA.cons (M1 := [rowC n2]) (EV.call1' (n := 0) (ds := [lM A, lM B]) (cs := n2.map D.int) (cs' := n2.map D.int) (M1 := [rowC n2]) (fn_product W) (EA.cons (EV.nm 0) (EA.cons (EV.nm 4) (EA.cons (M1 := [rowC n2]) (EV.call1' (n := 0) (ds := [.int (m : Int), .int (w : Int)]) (cs := n1.map D.int) (cs' := n2.map D.int) (M1 := [rowC n1]) (fn_table W) (EA.cons (EV.nm 0) (EA.cons (EV.nm 2) (EA.cons (EV.nm 3) EA.nil))) rfl ⟨rfl, hrunB⟩) EA.nil))) rfl ⟨rfl, hrunP⟩) (EA.cons (EV.tup (ds := [.str "same", tM A, tM A]) (EA.cons EV.str (EA.cons (EV.c1 (ok_law_rows W) (EV.nm 4) ⟨A, by omega, hsm, rfl, rfl⟩) (EA.cons (EV.c1 (ok_law_rows W) (EV.nm 4) ⟨A, by omega, hsm, rfl, rfl⟩) EA.nil))) (by show 3 ≤ 100000; decide)) EA.nil)) (by show 2 ≤ 100000; decide)) c_law_thin.nd) (SB.cons (E1 := E (.adr 1)) (M1 := [rowC n2, some [.dat P, .dat c2, .dat c3]]) (ST.to (ST.exp (EV.append (n := 1) (ps := [.dat P, .dat c2]) (M1 := [rowC n2, some [.dat P, .dat c2]]) (M2 := [rowC n2, some [.dat P, .dat c2]]) (EV.nm 5) (EV.tup (ds := [.str "least", tM A, .int (mnL (A.map mnL))]) (EA.cons EV.str (EA.cons (EV.c1 (ok_law_rows W) (EV.nm 4) ⟨A, by omega, hsm, rfl, rfl⟩) (EA.cons (EV.minL (ns := A.map mnL) ?_ h1 h2 W.b.min) EA.nil))) (by show 3 ≤ 100000; decide)) rfl rfl (by show 2 < 100000; decide))) rfl) (SB.cons (E1 := E (.adr 1)) (M1 := [rowC n3, some [.dat P, .dat c2, .dat c3, .dat S]]) (ST.to (ST.exp (EV.append (n := 1) (ps := [.dat P, .dat c2, .dat c3]) (M1 := [rowC n2, some [.dat P, .dat c2, .dat c3]]) (M2 := [rowC n3, some [.dat P, .dat c2, .dat c3]]) (EV.nm 5) (EV.call1' (n := 0) (ds := [.int (n : Int), .int (m : Int)]) (cs := n2.map D.int) (cs' := n3.map D.int) (fn_staircase W) (EA.cons (EV.nm 0) (EA.cons (EV.nm 1) (EA.cons (EV.nm 2) EA.nil))) rfl ⟨rfl, hrunS⟩) rfl rfl (by show 3 < 100000; decide))) rfl) (SB.cons (E1 := E (.adr 1)) (M1 := [rowC n3, some [.dat P, .dat c2, .dat c3, .dat S, .dat c5]]) (ST.to (ST.exp (EV.append (n := 1) (ps := [.dat P, .dat c2, .dat c3, .dat S]) (M1 := [rowC n3, some [.dat P, .dat c2, .dat c3, .dat S]]) (M2 := [rowC n3, some [.dat P, .dat c2, .dat c3, .dat S]]) (EV.nm 5) (EV.tup (ds := [.str "divides", .int 1, tM A]) (EA.cons EV.str (EA.cons EV.int (EA.cons (EV.c1 (ok_law_rows W) (EV.nm 4) ⟨A, by omega, hsm, rfl, rfl⟩) EA.nil))) (by show 3 ≤ 100000; decide)) rfl rfl (by show 4 < 100000; decide))) rfl) (SB.fz (jj := 5) (nn := 1) (ds := [P, c2, c3, S, c5]) rfl rfl (SB.one (ST.ret (EV.nm 5)))))))))
  rw [List.map_map]
  exact LC.ev (LC.lM 6 (xs := A) (f := lV) (g := fun r => .int (mnL r)) (own := [("line", 6)]) (by rfl) c_law_thin.nd rfl (EV.nm 4) rfl (Nat.le_refl _) OkM.refl (by omega) (fun q hq M => EV.minL (ns := q) (EV.nm 6) (mnL_spec (hrne q hq)).1 (mnL_spec (hrne q hq)).2 W.b.min))
theorem fn_thin (W : Wd g) : FN g "_law_thin" 4 (fun os M o M' => os.length = 1 ∧ Run g n_law_thin s_law_thin 3 os M o M') := FN.run (ps := ["row"]) W.t_law_thin c_law_thin (fun _ _ _ _ _ _ us hl => match us, hl with | [_], _ => rfl)
end
section
variable {g : Pg}
abbrev C11 (g : Pg) : Cc := mkC g n_law s_law 7
abbrev lb : List Stmt := defBody s_law
abbrev lE (o0 st gd k bd mx c : O) : List O := [o0, .adr 1, st, gd, k, bd, mx, c]
theorem wrong_gd {ds : List D} (h : ∀ c ∈ ds, Gd c) : wrongD (.tup ds) = .non := by
  show optN (ds.findIdx? fun c => !goodB c) = _
  have : (ds.findIdx? fun c => !goodB c) = none := List.findIdx?_eq_none_iff.mpr fun c hc => by
    rw [(h c hc).good]
    rfl
  rw [this]
  rfl
theorem row_gd {ds : List D} (hl : ds.length < 100000) (h : ∀ c ∈ ds, Gd c) : Row ds := ⟨hl, fun c hc => (h c hc).dm⟩
theorem row_one {d : D} (h : Dm d) : Row [d] := ⟨by show 1 < 100000; decide, fun c hc => by rw [List.mem_singleton.mp hc]; exact h⟩
theorem spoilt_fun (W : Wd g) : ∃ (sp : D × List Int → D) (sn : D × List Int → List Int), ∀ a : D × List Int, Gd a.1 → Dm (sp a) ∧ Run g n_law_spoilt s_law_spoilt 2 [.adr 0, .dat a.1] [rowC a.2] (.dat (sp a)) [rowC (sn a)] := by
  refine choose2 (P := fun (a : D × List Int) (q : D) (k : List Int) => Gd a.1 → Dm q ∧ Run g n_law_spoilt s_law_spoilt 2 [.adr 0, .dat a.1] [rowC a.2] (.dat q) [rowC k]) fun a => ?_
  by_cases h : Gd a.1
  · obtain ⟨q, k, h1, h2⟩ := spoilt_run W h a.2
    exact ⟨q, k, fun _ => ⟨h1, h2⟩⟩
  · exact ⟨.non, [], fun h' => absurd h' h⟩
def kk (sn : D × List Int → List Int) (G : List D) (k : List Int) : Nat → List Int
  | 0 => k
  | i + 1 => sn (G.getD i .non, kk sn G k i)
/-- what stands behind the good claims -/
theorem law_tail (W : Wd g) {o0 so ko co : O} {G : List D} {k : List Int} (hG : 5 ≤ G.length ∧ G.length ≤ 7) (hg : ∀ c ∈ G, Gd c) : ∃ M', SB (C11 g) (lb.drop 6) (lE o0 so (.dat (.lst G)) .no .no .no .no) [none, rowC k, none] (.rt (.dat (.bl true)) M') := by
  have T := ok_law_take W
  obtain ⟨sp, sn, hsp⟩ := spoilt_fun W
  have mG : Milds (.tup G) := (row_gd (by omega) hg).milds
  have wG : wrongD (.tup G) = .non := wrong_gd hg
  have hGi : ∀ i, i < G.length → Gd (G.getD i .non) := fun i hi => hg _ (mem_getD hi)
  let B : List D := (List.range G.length).map fun i => sp (G.getD i .non, kk sn G k i)
  have hBl : B.length = G.length := by show (List.map _ _).length = _; rw [List.length_map, List.length_range]
  have hB : ∀ c ∈ B, Dm c := fun c hc => by
    obtain ⟨i, hi, rfl⟩ := List.mem_map.mp hc
    exact (hsp (G.getD i .non, kk sn G k i) (hGi i (List.mem_range.mp hi))).1
  let k1 := kk sn G k G.length
  have p3 := tk_pos (ns := k1) (b := 3) (by decide)
  obtain ⟨N, eN⟩ : ∃ N : Nat, 1 + tk k1 3 = (N : Int) := ⟨(1 + tk k1 3).toNat, by omega⟩
  have ixG : ∀ i, i < G.length → ixD (.lst G) ((i : Nat) : Int) = some (G.getD i .non) := fun i hi => atI_nat (by rw [List.getElem?_eq_getElem hi, List.getD_eq_getElem?_getD, List.getElem?_eq_getElem hi]; rfl)
  have ixB : ∀ i, i < B.length → ixD (.lst B) ((i : Nat) : Int) = some (B.getD i .non) := fun i hi => atI_nat (by rw [List.getElem?_eq_getElem hi, List.getD_eq_getElem?_getD, List.getElem?_eq_getElem hi]; rfl)
  -- the mixed rows
  obtain ⟨f, f0, fI, fP⟩ := chain (S := List Int × List D) (n := N) (I := fun i s => s.2.length = G.length + i ∧ ∀ c ∈ s.2, Dm c)
    (P := fun i s s' => SB (C11 g) (bodyOf (lb.getD 10 (.Pass ⟨0, 0, 0, 0⟩))) (lE o0 so (.dat (.lst G)) (.dat (.int (i : Int))) (.dat (.lst B)) (.adr 3) .no) [none, rowC s.1, none, some (s.2.map .dat)] (.nx (lE o0 so (.dat (.lst G)) (.dat (.int (i : Int))) (.dat (.lst B)) (.adr 3) .no) [none, rowC s'.1, none, some (s'.2.map .dat)])) (fun i hi s hs => by
      obtain ⟨k2, L⟩ := s
      obtain ⟨h1, h2⟩ := hs
      simp only at h1 h2
      have hLl : (L.map O.dat).length = L.length := List.length_map _
      have q1 := tk_pos (ns := k2) (b := ((L.length : Nat) : Int) + 1) (by omega)
      have q2 := tk_pos (ns := dl 1 k2) (b := ((B.length : Nat) : Int)) (by omega)
      obtain ⟨b, eb⟩ : ∃ b : Nat, tk (dl 1 k2) B.length = (b : Int) := ⟨(tk (dl 1 k2) B.length).toNat, by omega⟩
      have hb : b < B.length := by omega
      obtain ⟨p, ep⟩ : ∃ p, tk k2 (((L.length : Nat) : Int) + 1) = p := ⟨_, rfl⟩
      rw [ep] at q1
      let L' := L.take p.toNat ++ [B.getD b .non] ++ L.drop p.toNat
      have hL' : L'.length = L.length + 1 := by
        show (L.take _ ++ [_] ++ L.drop _).length = _
        rw [List.length_append, List.length_append, List.length_take, List.length_drop, List.length_singleton]
        omega
      have hD : ∀ c ∈ L', Dm c := fun c hc => by
        rcases List.mem_append.mp hc with hc | hc
        · rcases List.mem_append.mp hc with hc | hc
          · exact h2 c (List.mem_of_mem_take hc)
          · rw [List.mem_singleton.mp hc]
            exact hB _ (mem_getD hb)
        · exact h2 c (List.mem_of_mem_drop hc)
      refine ⟨(dl 2 k2, L'), SB.cons (E1 := lE o0 so (.dat (.lst G)) (.dat (.int (i : Int))) (.dat (.lst B)) (.adr 3) .no) (M1 := [none, rowC (dl 2 k2), none, some (L'.map .dat)]) (ST.to (ST.exp (EV.insert (n := 3) (i := p) (ps := L.map O.dat) (ps1 := L.map O.dat) (M1 := [none, rowC k2, none, some (L.map .dat)]) (M2 := [none, rowC (dl 1 k2), none, some (L.map .dat)]) (M3 := [none, rowC (dl 2 k2), none, some (L.map .dat)]) (o := .dat (B.getD b .non)) (EV.nm 6) (EV.to (ev_tk (n := 1) (ns := k2) (j := ((L.length : Nat) : Int) + 1) T (EV.nm 1) (EV.to (EV.add (EV.lenC (nn := 3) (EV.nm 6) rfl W.b.len) EV.int) (by rw [hLl])) rfl (by omega)) (by rw [ep])) (EV.ix (EV.nm 5) (EV.to (ev_tk (n := 1) (ns := dl 1 k2) (j := ((B.length : Nat) : Int)) T (EV.nm 1) (EV.len (EV.nm 5) rfl W.b.len) rfl (by omega)) (by rw [eb])) (ixB b hb)) rfl rfl (by rw [hLl]; omega) (by omega))) ?_) (SB.one (ST.no (ET.to (ET.not (ET.val (EV.c1 (ok_law_asked W) (EV.tupleC (nn := 3) (ds := L') (EV.nm 6) rfl W.b.tuple) ⟨L', rfl, ⟨by omega, hD⟩, rfl⟩))) rfl) SB.nil)), by show L'.length = _; omega, hD⟩
      show Out.nx _ [none, rowC (dl 2 k2), none, some ((L.map O.dat).take p.toNat ++ [O.dat (B.getD b .non)] ++ (L.map O.dat).drop p.toNat)] = Out.nx _ [none, rowC (dl 2 k2), none, some ((L.take p.toNat ++ [B.getD b .non] ++ L.drop p.toNat).map O.dat)]
      rw [List.map_append, List.map_append, List.map_take, List.map_drop]
      rfl) (dl 1 k1, G) ⟨by simp, fun c hc => (hg c hc).dm⟩
  obtain ⟨_, fD⟩ := fI N (Nat.le_refl N)
  refine ⟨[none, rowC (f N).1, none, some ((f N).2.map .dat)], ?_⟩
  refine SB.cons (ST.no (ET.to (EW.et (EW.or (k1 := false) (ET.to (ET.cm (EV.c1 (ok_takes W) (EV.tuple (EV.nm 3) rfl W.b.tuple) ⟨mG, rfl⟩) EV.bl CS.isnotB) (by rw [wG]; rfl)) (fun _ => EW.or1 (ET.notN (EV.c1 (ok_first_wrong W) (EV.tuple (EV.nm 3) rfl W.b.tuple) ⟨mG, rfl⟩))) (fun z => nomatch z))) (by rw [wG]; rfl)) SB.nil) ?_
  -- the spoilt ones
  refine SB.cons (E1 := lE o0 so (.dat (.lst G)) .no (.dat (.lst B)) .no .no) (M1 := [none, rowC k1, none]) (LC.set 5 (LC.lS (n := G.length) (it := atO G) (M1 := [none, rowC k, none]) (v := fun i => sp (G.getD i .non, kk sn G k i)) (M_ := fun i => [none, rowC (kk sn G k i), none]) (own := [("c", 7)]) (by rfl) c_law.nd (EI.lst (EV.nm 3)) rfl (fun _ _ => rfl) (fun _ _ _ => True.intro) (by omega) (Nat.le_refl _) (OkM.same (OkM.dat (OkM.same OkM.nil))) (fun i hi => ⟨_, fun M => EGv.nm 7 c_law.nd (by decide), fun c => EV.call1' (n := 1) (ds := [G.getD i .non]) (cs := (kk sn G k i).map D.int) (cs' := (kk sn G k (i + 1)).map D.int) (fn_spoilt W) (EA.cons (EV.nm 1) (EA.cons (EV.nm 7) EA.nil)) rfl ⟨rfl, (hsp (G.getD i .non, kk sn G k i) (hGi i hi)).2⟩⟩)) rfl rfl (fun env he => sw_true (by rw [he]; rfl) (by rw [he]; rfl) (by rfl) (by rfl))) ?_
  refine SB.cons (ST.forN 4 (n := ((G.length : Nat) : Int).toNat) (E_ := fun _ => lE o0 so (.dat (.lst G)) .no (.dat (.lst B)) .no .no) (M_ := fun _ => [none, rowC k1, none]) (EI.rng1 (EV.len (EV.nm 3) rfl W.b.len) W.b.range (by omega)) Fg.refl rfl (fun _ _ => True.intro) c_law.nd (fun i hi => ?_)) ?_
  · have hi' : i < G.length := hi
    rw [atI0_eq]
    refine ⟨lE o0 so (.dat (.lst G)) (.dat (.int (i : Int))) (.dat (.lst B)) .no .no, ?_, SB.one (ST.no (ET.to (EW.et (EW.or (k1 := false) (ET.to (ET.not (ET.val (EV.c1 (ok_law_asked W) (EV.tup (ds := [G.getD i .non]) (EA.cons (EV.ix (EV.nm 3) (EV.nm 4) (ixG i hi')) EA.nil) (by show 1 ≤ 100000; decide)) ⟨_, rfl, row_one (hGi i hi').dm, rfl⟩))) rfl) (fun _ => EW.or1 (ET.to (ET.not (ET.val (EV.c1 (ok_law_asked W) (EV.tup (ds := [B.getD i .non]) (EA.cons (EV.ix (EV.nm 5) (EV.nm 4) (ixB i (by omega))) EA.nil) (by show 1 ≤ 100000; decide)) ⟨_, rfl, row_one (hB _ (mem_getD (by omega))), rfl⟩))) rfl)) (fun z => nomatch z))) rfl) SB.nil)⟩
    exact Fg.cons (Fg.cons (Fg.cons (Fg.cons (Fg.no Fg.refl))))
  refine SB.cons (E1 := lE o0 so (.dat (.lst G)) .no (.dat (.lst B)) (.adr 3) .no) (M1 := [none, rowC k1, none, some (G.map .dat)]) (ST.set 6 (EV.listN (EV.nm 3) rfl W.b.list) c_law.nd) ?_
  refine SB.cons (ST.forN 4 (n := ((N : Nat) : Int).toNat) (E_ := fun _ => lE o0 so (.dat (.lst G)) .no (.dat (.lst B)) (.adr 3) .no) (M_ := fun i => [none, rowC (f i).1, none, some ((f i).2.map .dat)]) (EI.rng1 (EV.to (EV.add EV.int (ev_tk (n := 1) (ns := k1) (M' := [none, rowC (dl 1 k1), none, some (G.map .dat)]) T (EV.nm 1) EV.int rfl (by decide))) (by rw [eN])) W.b.range (by omega)) Fg.refl (by rw [f0]) (fun _ _ => True.intro) c_law.nd (fun i hi => ⟨_, ?_, by rw [atI0_eq]; exact fP i hi⟩)) ?_
  · exact Fg.cons (Fg.cons (Fg.cons (Fg.cons (Fg.no Fg.refl))))
  have rB : Row B := ⟨by omega, hB⟩
  have rR : Row B.reverse := ⟨by rw [List.length_reverse]; omega, fun c hc => hB c (List.mem_reverse.mp hc)⟩
  refine SB.cons (ST.no (ET.to (EW.et (EW.or (k1 := false) (ET.to (ET.not (ET.val (EV.c1 (ok_law_asked W) (EV.tuple (EV.nm 5) rfl W.b.tuple) ⟨B, rfl, rB, rfl⟩))) rfl) (fun _ => EW.or1 (ET.to (ET.not (ET.val (EV.c1 (ok_law_asked W) (EV.tuple (EV.listRev (EV.nm 5) W.b.list W.b.reversed (Nat.le_refl _) OkM.refl) rfl W.b.tuple) ⟨B.reverse, rfl, rR, rfl⟩))) rfl)) (fun z => nomatch z))) rfl) SB.nil) ?_
  have hcut : cutD G none (some (2 : Int)) = G.take 2 := cut_take (i := 2) (by omega)
  have hg2 : ∀ c ∈ G ++ G.take 2, Gd c := fun c hc => by
    rcases List.mem_append.mp hc with hc | hc
    · exact hg c hc
    · exact hg c (List.mem_of_mem_take hc)
  have m2 : Milds (.tup (G ++ G.take 2)) := (row_gd (by rw [List.length_append, List.length_take]; omega) hg2).milds
  have w2 := wrong_gd hg2
  exact SB.one (ST.ret (EV.to (EV.and (EV.cm (EV.c1 (ok_takes W) (EV.tuple (d := .lst (G ++ G.take 2)) (EV.to (EV.bin (EV.nm 3) (EV.slL (EV.nm 3) EO.none (EO.some EV.int)) (BS.addL (by rw [hcut, List.length_take]; omega))) (by rw [hcut])) rfl W.b.tuple) ⟨m2, rfl⟩) EV.bl CS.isB) (fun _ => EV.and1 (EV.isN (EV.c1 (ok_first_wrong W) (EV.tuple (EV.nm 3) rfl W.b.tuple) ⟨mG, rfl⟩))) (fun _ => rfl)) (by rw [wG, w2]; rfl)))
theorem law_run (W : Wd g) {o0 : O} {ns : List Int} (hs : Scr g.K o0 (ns.map V.int)) (hn : o0 ≠ .no) (hl : ns.length ≤ 63) : ∃ M', SB (C11 g) lb (pad n_law [o0]) [] (.rt (.dat (.bl true)) M') := by
  have T := ok_law_take W
  have hren : ∀ ρ : Nat → Nat, o0.ren ρ = o0 := fun ρ => by
    obtain ⟨a, u, rfl, _⟩ := hs
    rfl
  obtain ⟨res, hres⟩ := draws_run W hs hn hl
  obtain ⟨st, hst⟩ : ∃ st, tk res 7 = st := ⟨_, rfl⟩
  have mE : Milds (.tup []) := (row_gd (ds := []) (by decide) (fun c hc => by simp at hc)).milds
  obtain ⟨f, f0, fI, fP⟩ := chain (S := List Int × List D) (n := 7) (I := fun i s => s.2.length = i ∧ ∀ c ∈ s.2, Gd c)
    (P := fun i s s' => SB (C11 g) (bodyOf (lb.getD 4 (.Pass ⟨0, 0, 0, 0⟩))) (lE o0 (.dat (.int st)) (.adr 2) (.dat (.int (i : Int))) .no .no .no) [none, rowC s.1, some (s.2.map .dat)] (.nx (lE o0 (.dat (.int st)) (.adr 2) (.dat (.int (i : Int))) .no .no .no) [none, rowC s'.1, some (s'.2.map .dat)])) (fun i hi s hs' => by
      obtain ⟨k1, G⟩ := s
      obtain ⟨h1, h2⟩ := hs'
      simp only at h1 h2
      have q1 := tk_pos (ns := k1) (b := 4) (by decide)
      have q2 := tk_pos (ns := dl 1 k1) (b := 4) (by decide)
      obtain ⟨n, en⟩ : ∃ n : Nat, 1 + tk k1 4 = (n : Int) := ⟨(1 + tk k1 4).toNat, by omega⟩
      obtain ⟨m, em⟩ : ∃ n : Nat, 1 + tk (dl 1 k1) 4 = (n : Int) := ⟨(1 + tk (dl 1 k1) 4).toNat, by omega⟩
      obtain ⟨c, k2, hc, rc⟩ := good_run W (kind := (st + 3 * (i : Int)) % 7) (n := n) (m := m) (by omega) (by omega) (dl 2 k1)
      refine ⟨(k2, G ++ [c]), SB.one (ST.to (ST.exp (EV.append (n := 2) (ps := G.map O.dat) (M1 := [none, rowC k1, some (G.map .dat)]) (M2 := [none, rowC k2, some (G.map .dat)]) (EV.nm 3) (EV.call1' (n := 1) (ds := [.int ((st + 3 * (i : Int)) % 7), .int (n : Int), .int (m : Int)]) (cs := (dl 2 k1).map D.int) (cs' := k2.map D.int) (M1 := [none, rowC (dl 2 k1), some (G.map .dat)]) (fn_good W) (EA.cons (EV.nm 1) (EA.cons (EV.mod (EV.intI (EV.add (EV.nm 2) (EV.mulL EV.int (EV.nm 4) (by decide))) W.b.int) EV.int (by decide)) (EA.cons (EV.to (EV.add EV.int (ev_tk (ns := k1) (M' := [none, rowC (dl 1 k1), some (G.map .dat)]) T (EV.nm 1) EV.int rfl (by decide))) (by rw [en])) (EA.cons (EV.to (EV.add EV.int (ev_tk (ns := dl 1 k1) (M' := [none, rowC (dl 2 k1), some (G.map .dat)]) T (EV.nm 1) EV.int rfl (by decide))) (by rw [em])) EA.nil)))) rfl ⟨rfl, rc⟩) rfl rfl (by rw [List.length_map]; omega))) ?_), by show (G ++ [c]).length = _; rw [List.length_append, h1]; rfl, fun d hd => ?_⟩
      · show Out.nx _ [none, rowC _, some _] = Out.nx _ [none, rowC _, some ((G ++ [c]).map O.dat)]
        rw [List.map_append]
        rfl
      · rcases List.mem_append.mp hd with hd | hd
        · exact h2 d hd
        · rw [List.mem_singleton.mp hd]
          exact hc) (dl 1 res, []) ⟨rfl, fun c hc => by simp at hc⟩
  obtain ⟨hG, hg⟩ := fI 7 (Nat.le_refl 7)
  obtain ⟨cs, k3, hcs, hcg, hrunT⟩ := thin_run W (dl 1 (f 7).1)
  suffices ∃ M', SB (C11 g) (lb.drop 5) (lE o0 (.dat (.int st)) (.dat (.lst (f 7).2)) .no .no .no .no) [none, rowC (f 7).1, none] (.rt (.dat (.bl true)) M') by
    obtain ⟨M', h⟩ := this
    refine ⟨M', SB.cons (E1 := [o0, .adr 1, .no, .no, .no, .no, .no, .no]) (M1 := [none, rowC res]) (ST.set 1 (EV.callG (ι := []) (os0 := [o0, .dat (.int 520)]) (M0 := []) (M0' := [none, rowC res]) (o0 := .adr 1) (ok_law_draws W) (EA.cons (EV.nm 0 rfl rfl hn) (EA.cons EV.int EA.nil)) ⟨o0, res, hres, rfl, rfl, rfl, rfl⟩ (by show [_, _] = [o0.ren _, _]; rw [hren]; rfl) mixDraws) c_law.nd) ?_⟩
    refine SB.cons (ST.no (ET.to (EW.et (EW.or (k1 := false) (ET.to (ET.cm (EV.c1 (ok_takes W) (EV.tup (ds := []) EA.nil (by decide)) ⟨mE, rfl⟩) EV.bl CS.isnotB) rfl) (fun _ => EW.or1 (ET.notN (EV.c1 (ok_first_wrong W) (EV.tup (ds := []) EA.nil (by decide)) ⟨mE, rfl⟩))) (fun z => nomatch z))) rfl) SB.nil) ?_
    refine SB.cons (E1 := [o0, .adr 1, .dat (.int st), .no, .no, .no, .no, .no]) (M1 := [none, rowC (dl 1 res)]) (ST.set 2 (EV.to (ev_tk (n := 1) (ns := res) (M' := [none, rowC (dl 1 res)]) T (EV.nm 1) EV.int rfl (by decide)) (by rw [hst])) c_law.nd) ?_
    refine SB.cons (ST.set 3 (EV.cel EA.nil (by decide)) c_law.nd) ?_
    refine SB.cons (ST.forN 4 (n := (7 : Int).toNat) (E_ := fun _ => lE o0 (.dat (.int st)) (.adr 2) .no .no .no .no) (M_ := fun i => [none, rowC (f i).1, some ((f i).2.map .dat)]) (EI.rng1 EV.int W.b.range (by decide)) Fg.refl (by rw [f0]; rfl) (fun _ _ => True.intro) c_law.nd (fun i hi => ⟨_, ?_, by rw [atI0_eq]; exact fP i hi⟩)) ?_
    · exact Fg.cons (Fg.cons (Fg.cons (Fg.cons (Fg.no Fg.refl))))
    exact SB.fz (jj := 3) (nn := 2) (ds := (f 7).2) rfl rfl h
  have tst : ET (C11 g) (ifOf (lb.getD 5 (.Pass ⟨0, 0, 0, 0⟩))) (lE o0 (.dat (.int st)) (.dat (.lst (f 7).2)) .no .no .no .no) [none, rowC (f 7).1, none] (decide (tk (f 7).1 5 = 0)) [none, rowC (dl 1 (f 7).1), none] := ET.cm (ev_tk (n := 1) (ns := (f 7).1) T (EV.nm 1) EV.int rfl (by decide)) EV.int CS.eqI
  by_cases h0 : tk (f 7).1 5 = 0
  · obtain ⟨M', h⟩ := law_tail W (o0 := o0) (so := .dat (.int st)) (ko := .no) (co := .no) (G := cs) (k := k3) (by omega) hcg
    exact ⟨M', SB.cons (E1 := lE o0 (.dat (.int st)) (.dat (.lst cs)) .no .no .no .no) (M1 := [none, rowC k3, none]) (ST.yes (ET.to tst (decide_eq_true h0)) (SB.one (ST.set 3 (EV.call1' (n := 1) (ds := []) (cs := (dl 1 (f 7).1).map D.int) (cs' := k3.map D.int) (fn_thin W) (EA.cons (EV.nm 1) EA.nil) rfl ⟨rfl, hrunT⟩) c_law.nd))) h⟩
  · obtain ⟨M', h⟩ := law_tail W (o0 := o0) (so := .dat (.int st)) (ko := .no) (co := .no) (G := (f 7).2) (k := dl 1 (f 7).1) (by omega) hg
    exact ⟨M', SB.cons (ST.no (ET.to tst (decide_eq_false h0)) SB.nil) h⟩
def spLaw (K : PySem.W.Frag) : Sp := fun vs H Q _ => ∃ (a : Addr) (ns : List Int), vs = [.ref a] ∧ SqL K H a (ns.map V.int) ∧ ns.length ≤ 63 ∧ ∀ H', Q (.bl true) H'
open Classical in
theorem scr_of {K : PySem.W.Frag} {H : Hp} {a : Addr} {xs : List V} (h : SqL K H a xs) : ∃ (I : Hp) (u : Option HO), Ex I H ∧ (∀ o, u = some o → I a = some o) ∧ Scr K (.scr a u) xs := by
  have one : ∀ o, H a = some o → (∀ H' : Hp, H' a = some o → SqL K H' a xs) → ∃ (I : Hp) (u : Option HO), Ex I H ∧ (∀ o, u = some o → I a = some o) ∧ Scr K (.scr a u) xs := fun o ho hq => by
    refine ⟨fun b => if b = a then some o else none, some o, fun b p hb => ?_, fun p hp => ?_, a, some o, rfl, fun H' hH => hq H' (hH o rfl)⟩
    · have hb' : (if b = a then some o else none) = some p := hb
      split at hb'
      · rename_i e
        rw [e, ho]
        exact hb'
      · cases hb'
    · show (if a = a then some o else none) = some p
      rw [if_pos rfl]
      exact hp
  rcases h with h | h
  · rcases h with h | ⟨ob, h⟩
    · exact one _ h fun H' h' => .inl (.inl h')
    · exact one _ h fun H' h' => .inl (.inr ⟨ob, h'⟩)
  · exact ⟨fun _ => none, none, (fun b p hb => by cases hb), (fun p hp => by cases hp), a, none, rfl, fun H' _ => .inr h⟩
theorem ok_law {f : Addr} {fd : FuncData} (W : Wd g) (F : Fun g.K "law" "law" s_law f fd) : FnOk g.P g.w g.K g.mg g.base CX0 8 f fd ["script"] (spLaw g.K) := by
  refine F.ok (N := n_law) c_law (fun vs H Q E h => ?_) (fun cdv A outer s H vs Q E hr h => ?_)
  · obtain ⟨a, ns, rfl, _⟩ := h
    rfl
  · obtain ⟨a, ns, rfl, hS, hlen, q⟩ := h
    obtain ⟨I, u, ex, hu, hs⟩ := scr_of hS
    obtain ⟨M', hb⟩ := law_run (g := g) W hs (by intro z; cases z) hlen
    refine ⟨UB (C11 g) lb, ub ⟨rfl, rfl, rfl, rfl, rfl, rfl, rfl, rfl, hr, rfl, fun _ _ => rfl⟩ _, ?_⟩
    refine hb I H [] (L2.start n_law [.ref a]) _ ⟨ex, ⟨rfl, List.nodup_nil, fun k a os h1 _ => by simp at h1, fun k a h1 => by simp at h1⟩, rfl, fun i p ov h1 h2 => ?_⟩ fun v I' H' adr' s' g' v' => ?_
    · match i, h1, h2 with
      | 0, h1, h2 =>
        cases h1
        cases h2
        exact ⟨rfl, hu⟩
      | i + 1, h1, h2 =>
        have e : p = .no := by
          have : (List.replicate 7 O.no)[i]? = some p := h1
          exact List.eq_of_mem_replicate (List.mem_of_getElem? this)
        subst e
        have e2 : ov = none := by
          have : (List.replicate 7 (none : Option V))[i]? = some ov := h2
          exact List.eq_of_mem_replicate (List.mem_of_getElem? this)
        subst e2
        rfl
    · cases (show Rep I' (.bl true) v from v')
      exact q H'
end
end Ab
end
set_option maxHeartbeats 0
/-! ### the head -/
namespace Ab
open PySem PySem.Spec PyProof.Rows L2
def d_is_number : He.DefD := ⟨("is_number", none), "is_number", "is_number", defArgs s_is_number, defBody s_is_number, defScope s_is_number, [], []⟩
def d_is_wide : He.DefD := ⟨("is_wide", none), "is_wide", "is_wide", defArgs s_is_wide, defBody s_is_wide, defScope s_is_wide, [], []⟩
def d_times : He.DefD := ⟨("times", none), "times", "times", defArgs s_times, defBody s_times, defScope s_times, [], []⟩
def d_flipped : He.DefD := ⟨("flipped", none), "flipped", "flipped", defArgs s_flipped, defBody s_flipped, defScope s_flipped, [], []⟩
def d_multiplied : He.DefD := ⟨("multiplied", none), "multiplied", "multiplied", defArgs s_multiplied, defBody s_multiplied, defScope s_multiplied, [], []⟩
def d_lead : He.DefD := ⟨("lead", none), "lead", "lead", defArgs s_lead, defBody s_lead, defScope s_lead, [], []⟩
def d_is_echelon : He.DefD := ⟨("is_echelon", none), "is_echelon", "is_echelon", defArgs s_is_echelon, defBody s_is_echelon, defScope s_is_echelon, [], []⟩
def d_numbers_of : He.DefD := ⟨("numbers_of", none), "numbers_of", "numbers_of", defArgs s_numbers_of, defBody s_numbers_of, defScope s_numbers_of, [], []⟩
def d_divides_all : He.DefD := ⟨("divides_all", none), "divides_all", "divides_all", defArgs s_divides_all, defBody s_divides_all, defScope s_divides_all, [], []⟩
def d_is_claim : He.DefD := ⟨("is_claim", none), "is_claim", "is_claim", defArgs s_is_claim, defBody s_is_claim, defScope s_is_claim, [], []⟩
def d_is_product : He.DefD := ⟨("is_product", none), "is_product", "is_product", defArgs s_is_product, defBody s_is_product, defScope s_is_product, [], []⟩
def d_is_so : He.DefD := ⟨("is_so", none), "is_so", "is_so", defArgs s_is_so, defBody s_is_so, defScope s_is_so, [], []⟩
def d_wrong_one : He.DefD := ⟨("wrong_one", none), "wrong_one", "wrong_one", defArgs s_wrong_one, defBody s_wrong_one, defScope s_wrong_one, [], []⟩
def d_takes : He.DefD := ⟨("takes", none), "takes", "takes", defArgs s_takes, defBody s_takes, defScope s_takes, [], []⟩
def d_first_wrong : He.DefD := ⟨("first_wrong", none), "first_wrong", "first_wrong", defArgs s_first_wrong, defBody s_first_wrong, defScope s_first_wrong, [], []⟩
def d_law_draws : He.DefD := ⟨("_law_draws", none), "_law_draws", "_law_draws", defArgs s_law_draws, defBody s_law_draws, defScope s_law_draws, [], []⟩
def d_law_take : He.DefD := ⟨("_law_take", none), "_law_take", "_law_take", defArgs s_law_take, defBody s_law_take, defScope s_law_take, [], []⟩
def d_law_like : He.DefD := ⟨("_law_like", none), "_law_like", "_law_like", defArgs s_law_like, defBody s_law_like, defScope s_law_like, [], []⟩
def d_law_rows : He.DefD := ⟨("_law_rows", none), "_law_rows", "_law_rows", defArgs s_law_rows, defBody s_law_rows, defScope s_law_rows, [], []⟩
def d_law_number : He.DefD := ⟨("_law_number", none), "_law_number", "_law_number", defArgs s_law_number, defBody s_law_number, defScope s_law_number, [], []⟩
def d_law_matrix : He.DefD := ⟨("_law_matrix", none), "_law_matrix", "_law_matrix", defArgs s_law_matrix, defBody s_law_matrix, defScope s_law_matrix, [], []⟩
def d_law_parts_it : He.DefD := ⟨("_law_parts_it", none), "_law_parts_it", "_law_parts_it", defArgs s_law_parts_it, defBody s_law_parts_it, defScope s_law_parts_it, [], []⟩
def d_law_stairs : He.DefD := ⟨("_law_stairs", none), "_law_stairs", "_law_stairs", defArgs s_law_stairs, defBody s_law_stairs, defScope s_law_stairs, [], []⟩
def d_law_sums : He.DefD := ⟨("_law_sums", none), "_law_sums", "_law_sums", defArgs s_law_sums, defBody s_law_sums, defScope s_law_sums, [], []⟩
def d_law_each : He.DefD := ⟨("_law_each", none), "_law_each", "_law_each", defArgs s_law_each, defBody s_law_each, defScope s_law_each, [], []⟩
def d_law_claim : He.DefD := ⟨("_law_claim", none), "_law_claim", "_law_claim", defArgs s_law_claim, defBody s_law_claim, defScope s_law_claim, [], []⟩
def d_law_wrong : He.DefD := ⟨("_law_wrong", none), "_law_wrong", "_law_wrong", defArgs s_law_wrong, defBody s_law_wrong, defScope s_law_wrong, [], []⟩
def d_law_wrong_one : He.DefD := ⟨("_law_wrong_one", none), "_law_wrong_one", "_law_wrong_one", defArgs s_law_wrong_one, defBody s_law_wrong_one, defScope s_law_wrong_one, [], []⟩
def d_law_big : He.DefD := ⟨("_law_big", none), "_law_big", "_law_big", defArgs s_law_big, defBody s_law_big, defScope s_law_big, [], []⟩
def d_law_table : He.DefD := ⟨("_law_table", none), "_law_table", "_law_table", defArgs s_law_table, defBody s_law_table, defScope s_law_table, [], []⟩
def d_law_product : He.DefD := ⟨("_law_product", none), "_law_product", "_law_product", defArgs s_law_product, defBody s_law_product, defScope s_law_product, [], []⟩
def d_law_staircase : He.DefD := ⟨("_law_staircase", none), "_law_staircase", "_law_staircase", defArgs s_law_staircase, defBody s_law_staircase, defScope s_law_staircase, [], []⟩
def d_law_good : He.DefD := ⟨("_law_good", none), "_law_good", "_law_good", defArgs s_law_good, defBody s_law_good, defScope s_law_good, [], []⟩
def d_law_moved : He.DefD := ⟨("_law_moved", none), "_law_moved", "_law_moved", defArgs s_law_moved, defBody s_law_moved, defScope s_law_moved, [], []⟩
def d_law_spoilt : He.DefD := ⟨("_law_spoilt", none), "_law_spoilt", "_law_spoilt", defArgs s_law_spoilt, defBody s_law_spoilt, defScope s_law_spoilt, [], []⟩
def d_law_asked : He.DefD := ⟨("_law_asked", none), "_law_asked", "_law_asked", defArgs s_law_asked, defBody s_law_asked, defScope s_law_asked, [], []⟩
def d_law_thin : He.DefD := ⟨("_law_thin", none), "_law_thin", "_law_thin", defArgs s_law_thin, defBody s_law_thin, defScope s_law_thin, [], []⟩
def d_law : He.DefD := ⟨("law", none), "law", "law", defArgs s_law, defBody s_law, defScope s_law, [], []⟩
def hfn0 : List He.DefD := [d_is_number, d_is_wide, d_times, d_flipped, d_multiplied, d_lead, d_is_echelon, d_numbers_of, d_divides_all, d_is_claim, d_is_product, d_is_so, d_wrong_one, d_takes, d_first_wrong, d_law_draws, d_law_take, d_law_like, d_law_rows, d_law_number]
def hfn1 : List He.DefD := [d_law_matrix, d_law_parts_it, d_law_stairs, d_law_sums, d_law_each, d_law_claim, d_law_wrong, d_law_wrong_one, d_law_big, d_law_table, d_law_product, d_law_staircase, d_law_good, d_law_moved, d_law_spoilt, d_law_asked, d_law_thin, d_law]
def hfn : List He.DefD := hfn0 ++ hfn1
def hfa0 : List He.Fa := [.glo "is_number", .glo "is_wide", .glo "times", .glo "flipped", .glo "multiplied", .glo "lead", .glo "is_echelon", .glo "numbers_of", .glo "divides_all", .glo "is_claim", .glo "is_product", .glo "is_so", .glo "wrong_one", .glo "takes", .glo "first_wrong", .glo "_law_draws", .glo "_law_take", .glo "_law_like", .glo "_law_rows", .glo "_law_number"]
def hfa1 : List He.Fa := [.glo "_law_matrix", .glo "_law_parts_it", .glo "_law_stairs", .glo "_law_sums", .glo "_law_each", .glo "_law_claim", .glo "_law_wrong", .glo "_law_wrong_one", .glo "_law_big", .glo "_law_table", .glo "_law_product", .glo "_law_staircase", .glo "_law_good", .glo "_law_moved", .glo "_law_spoilt", .glo "_law_asked", .glo "_law_thin", .glo "law", .free "len", .free "sum"]
def hfa2 : List He.Fa := [.free "all", .free "any", .free "abs", .free "min", .free "max", .free "int", .free "bool", .free "str", .free "tuple", .free "list", .free "range", .free "zip", .free "enumerate", .free "isinstance", .free "reversed", .free "sorted", .glo "SIZES"]
def hfa : List He.Fa := hfa0 ++ hfa1 ++ hfa2
def hloose0 : List Str := ["__name__", "is_number", "is_wide", "times", "flipped", "multiplied", "lead", "is_echelon", "SIZES", "numbers_of", "divides_all", "is_claim", "is_product", "is_so", "wrong_one", "takes", "first_wrong", "_law_draws", "_law_take", "_law_like"]
def hloose1 : List Str := ["_law_rows", "_law_number", "_law_matrix", "_law_parts_it", "_law_stairs", "_law_sums", "_law_each", "_law_claim", "_law_wrong", "_law_wrong_one", "_law_big", "_law_table", "_law_product", "_law_staircase", "_law_good", "_law_moved", "_law_spoilt", "_law_asked", "_law_thin"]
def hloose : List Str := hloose0 ++ hloose1
def hts : List He.Tab := [(fun K => He.ga K "SIZES", ["product", "same", "divides", "not divides", "least", "less", "echelon"])]
def keysB (K : PySem.W.Frag) (a : Addr) (ks : List Str) : Bool := match K.lookup a with
  | some ⟨_, _, .dict es _, _⟩ => es.toList.all fun e => match e.key with
    | .str x _ => ks.contains x
    | _ => false
  | _ => false
def hex (K : PySem.W.Frag) : Bool := (He.valsB K (He.ga K "SIZES") [("product", .int 4), ("same", .int 3), ("divides", .int 3), ("not divides", .int 3), ("least", .int 3), ("less", .int 3), ("echelon", .int 2)] && keysB K (He.ga K "SIZES") ["product", "same", "divides", "not divides", "least", "less", "echelon"])
theorem keys_none {K : PySem.W.Frag} {a : Addr} {ks : List Str} {z : Str} {es : Array DictEntry} {n : Nat} {w : World} (D : KDict K w a es n) (h : keysB K a ks = true) (hz : z ∉ ks) : PySem.W.nsIn K a z = some none := by
  unfold keysB at h
  rw [D.at_] at h
  have h' := List.all_eq_true.mp h
  unfold PySem.W.nsIn
  rw [D.at_]
  have key : ∀ e ∈ es.toList, ∃ x t, e.key = .str x t ∧ x ∈ ks := fun e he => by
    have := h' e he
    cases hk : e.key with
    | str x t =>
      rw [hk] at this
      exact ⟨x, t, rfl, by simpa using this⟩
    | _ => rw [hk] at this; cases this
  have e1 : es.toList.find? (·.key.isStr z) = none := List.find?_eq_none.mpr fun e he => by
    obtain ⟨x, t, hk, hx⟩ := key e he
    rw [hk]
    intro q
    have : x = z := by simpa [Value.isStr] using q
    exact hz (this ▸ hx)
  have e2 : es.toList.any (·.refKey) = false := List.any_eq_false.mpr fun e he => by
    obtain ⟨x, t, hk, hx⟩ := key e he
    unfold DictEntry.refKey
    rw [hk]
    exact Bool.false_ne_true
  show (match es.toList.find? (·.key.isStr z) with | some e => some (some e.val) | none => if es.toList.any (·.refKey) then none else some none) = _
  rw [e1]
  show (if es.toList.any (·.refKey) = true then none else some none) = _
  rw [e2]
  rfl
abbrev HR : PySem.W.OpenRow := PySem.W.OpenLaw.row PySem.Challenge.rw_multipliedout_k02_whole_claims_taken
abbrev hhk : PySem.W.Hook := He.hookX 5 hfa hfn hts [] hex
def hob (s : PySem.W.SharedT) : He.AlX := He.obsX 5 hfa hfn hts [] hex (HandSHeadRun.getT s)
theorem hob_eq (s : PySem.W.SharedT) : hob s = hhk.obs s.abs := He.obsX_eq (HandSHeadRun.getT_eq s)
theorem hrun (w : World) : HandSHeadRun.RunEq HR (PySem.W.view HR.prog [42]) hhk hob 4000 hloose w :=
  PySem.W.byRow2 "special-get-raises" (P := fun w => HandSHeadRun.RunEq HR (PySem.W.view HR.prog [42]) hhk hob 4000 hloose w) (fun w => by intro os; kernel_rfl) (fun w => by intro os; kernel_rfl) w
theorem fun_of {K : PySem.W.Frag} {x : Str} {st : Stmt} {f : Addr} {fd : FuncData} (F : FunD K x x (defArgs st) (defBody st) (defScope st) [] [] f fd) : Fun K x x st f fd := by
  obtain ⟨oc, od, dV, kV, doc, pm, an, cdv, ct, osl, h1, h2, h3, h4, h5⟩ := F.ex
  rcases h4 with ⟨_, e⟩ | ⟨e, _⟩
  · subst e
    exact ⟨⟨oc, od, kV, doc, pm, an, cdv, ct, osl, h1, h2, h3⟩, F.kp⟩
  · exact absurd rfl e
theorem hwd {P : Program} {w : World} {K : PySem.W.Frag} {h base : Heap} {mg : Str → Option Value} (X : K.In h) (G : h.Ns mainGlobals mg) (c : He.SaysD hfa hfn K) (c2 : He.SaysT hfa hfn hts w K) (c3 : hex K = true) : Wd ⟨P, w, K, mg, base⟩ where
  b := ⟨He.free_ok X G (c.fact 38 (f := .free "len") rfl), He.free_ok X G (c.fact 39 (f := .free "sum") rfl), He.free_ok X G (c.fact 40 (f := .free "all") rfl), He.free_ok X G (c.fact 41 (f := .free "any") rfl), He.free_ok X G (c.fact 42 (f := .free "abs") rfl), He.free_ok X G (c.fact 43 (f := .free "min") rfl), He.free_ok X G (c.fact 44 (f := .free "max") rfl), He.free_ok X G (c.fact 45 (f := .free "int") rfl), He.free_ok X G (c.fact 46 (f := .free "bool") rfl), He.free_ok X G (c.fact 47 (f := .free "str") rfl), He.free_ok X G (c.fact 48 (f := .free "tuple") rfl), He.free_ok X G (c.fact 49 (f := .free "list") rfl), He.free_ok X G (c.fact 50 (f := .free "range") rfl), He.free_ok X G (c.fact 51 (f := .free "zip") rfl), He.free_ok X G (c.fact 52 (f := .free "enumerate") rfl), He.free_ok X G (c.fact 53 (f := .free "isinstance") rfl), He.free_ok X G (c.fact 54 (f := .free "reversed") rfl), He.free_ok X G (c.fact 55 (f := .free "sorted") rfl)⟩
  t_is_number := ⟨let ⟨fd, F⟩ := c.def_ 0 (d := d_is_number) rfl; ⟨_, fd, fun_of F, He.glo_ok X G (c.fact 0 (f := .glo "is_number") rfl)⟩⟩
  t_is_wide := ⟨let ⟨fd, F⟩ := c.def_ 1 (d := d_is_wide) rfl; ⟨_, fd, fun_of F, He.glo_ok X G (c.fact 1 (f := .glo "is_wide") rfl)⟩⟩
  t_times := ⟨let ⟨fd, F⟩ := c.def_ 2 (d := d_times) rfl; ⟨_, fd, fun_of F, He.glo_ok X G (c.fact 2 (f := .glo "times") rfl)⟩⟩
  t_flipped := ⟨let ⟨fd, F⟩ := c.def_ 3 (d := d_flipped) rfl; ⟨_, fd, fun_of F, He.glo_ok X G (c.fact 3 (f := .glo "flipped") rfl)⟩⟩
  t_multiplied := ⟨let ⟨fd, F⟩ := c.def_ 4 (d := d_multiplied) rfl; ⟨_, fd, fun_of F, He.glo_ok X G (c.fact 4 (f := .glo "multiplied") rfl)⟩⟩
  t_lead := ⟨let ⟨fd, F⟩ := c.def_ 5 (d := d_lead) rfl; ⟨_, fd, fun_of F, He.glo_ok X G (c.fact 5 (f := .glo "lead") rfl)⟩⟩
  t_is_echelon := ⟨let ⟨fd, F⟩ := c.def_ 6 (d := d_is_echelon) rfl; ⟨_, fd, fun_of F, He.glo_ok X G (c.fact 6 (f := .glo "is_echelon") rfl)⟩⟩
  t_numbers_of := ⟨let ⟨fd, F⟩ := c.def_ 7 (d := d_numbers_of) rfl; ⟨_, fd, fun_of F, He.glo_ok X G (c.fact 7 (f := .glo "numbers_of") rfl)⟩⟩
  t_divides_all := ⟨let ⟨fd, F⟩ := c.def_ 8 (d := d_divides_all) rfl; ⟨_, fd, fun_of F, He.glo_ok X G (c.fact 8 (f := .glo "divides_all") rfl)⟩⟩
  t_is_claim := ⟨let ⟨fd, F⟩ := c.def_ 9 (d := d_is_claim) rfl; ⟨_, fd, fun_of F, He.glo_ok X G (c.fact 9 (f := .glo "is_claim") rfl)⟩⟩
  t_is_product := ⟨let ⟨fd, F⟩ := c.def_ 10 (d := d_is_product) rfl; ⟨_, fd, fun_of F, He.glo_ok X G (c.fact 10 (f := .glo "is_product") rfl)⟩⟩
  t_is_so := ⟨let ⟨fd, F⟩ := c.def_ 11 (d := d_is_so) rfl; ⟨_, fd, fun_of F, He.glo_ok X G (c.fact 11 (f := .glo "is_so") rfl)⟩⟩
  t_wrong_one := ⟨let ⟨fd, F⟩ := c.def_ 12 (d := d_wrong_one) rfl; ⟨_, fd, fun_of F, He.glo_ok X G (c.fact 12 (f := .glo "wrong_one") rfl)⟩⟩
  t_takes := ⟨let ⟨fd, F⟩ := c.def_ 13 (d := d_takes) rfl; ⟨_, fd, fun_of F, He.glo_ok X G (c.fact 13 (f := .glo "takes") rfl)⟩⟩
  t_first_wrong := ⟨let ⟨fd, F⟩ := c.def_ 14 (d := d_first_wrong) rfl; ⟨_, fd, fun_of F, He.glo_ok X G (c.fact 14 (f := .glo "first_wrong") rfl)⟩⟩
  t_law_draws := ⟨let ⟨fd, F⟩ := c.def_ 15 (d := d_law_draws) rfl; ⟨_, fd, fun_of F, He.glo_ok X G (c.fact 15 (f := .glo "_law_draws") rfl)⟩⟩
  t_law_take := ⟨let ⟨fd, F⟩ := c.def_ 16 (d := d_law_take) rfl; ⟨_, fd, fun_of F, He.glo_ok X G (c.fact 16 (f := .glo "_law_take") rfl)⟩⟩
  t_law_like := ⟨let ⟨fd, F⟩ := c.def_ 17 (d := d_law_like) rfl; ⟨_, fd, fun_of F, He.glo_ok X G (c.fact 17 (f := .glo "_law_like") rfl)⟩⟩
  t_law_rows := ⟨let ⟨fd, F⟩ := c.def_ 18 (d := d_law_rows) rfl; ⟨_, fd, fun_of F, He.glo_ok X G (c.fact 18 (f := .glo "_law_rows") rfl)⟩⟩
  t_law_number := ⟨let ⟨fd, F⟩ := c.def_ 19 (d := d_law_number) rfl; ⟨_, fd, fun_of F, He.glo_ok X G (c.fact 19 (f := .glo "_law_number") rfl)⟩⟩
  t_law_matrix := ⟨let ⟨fd, F⟩ := c.def_ 20 (d := d_law_matrix) rfl; ⟨_, fd, fun_of F, He.glo_ok X G (c.fact 20 (f := .glo "_law_matrix") rfl)⟩⟩
  t_law_parts_it := ⟨let ⟨fd, F⟩ := c.def_ 21 (d := d_law_parts_it) rfl; ⟨_, fd, fun_of F, He.glo_ok X G (c.fact 21 (f := .glo "_law_parts_it") rfl)⟩⟩
  t_law_stairs := ⟨let ⟨fd, F⟩ := c.def_ 22 (d := d_law_stairs) rfl; ⟨_, fd, fun_of F, He.glo_ok X G (c.fact 22 (f := .glo "_law_stairs") rfl)⟩⟩
  t_law_sums := ⟨let ⟨fd, F⟩ := c.def_ 23 (d := d_law_sums) rfl; ⟨_, fd, fun_of F, He.glo_ok X G (c.fact 23 (f := .glo "_law_sums") rfl)⟩⟩
  t_law_each := ⟨let ⟨fd, F⟩ := c.def_ 24 (d := d_law_each) rfl; ⟨_, fd, fun_of F, He.glo_ok X G (c.fact 24 (f := .glo "_law_each") rfl)⟩⟩
  t_law_claim := ⟨let ⟨fd, F⟩ := c.def_ 25 (d := d_law_claim) rfl; ⟨_, fd, fun_of F, He.glo_ok X G (c.fact 25 (f := .glo "_law_claim") rfl)⟩⟩
  t_law_wrong := ⟨let ⟨fd, F⟩ := c.def_ 26 (d := d_law_wrong) rfl; ⟨_, fd, fun_of F, He.glo_ok X G (c.fact 26 (f := .glo "_law_wrong") rfl)⟩⟩
  t_law_wrong_one := ⟨let ⟨fd, F⟩ := c.def_ 27 (d := d_law_wrong_one) rfl; ⟨_, fd, fun_of F, He.glo_ok X G (c.fact 27 (f := .glo "_law_wrong_one") rfl)⟩⟩
  t_law_big := ⟨let ⟨fd, F⟩ := c.def_ 28 (d := d_law_big) rfl; ⟨_, fd, fun_of F, He.glo_ok X G (c.fact 28 (f := .glo "_law_big") rfl)⟩⟩
  t_law_table := ⟨let ⟨fd, F⟩ := c.def_ 29 (d := d_law_table) rfl; ⟨_, fd, fun_of F, He.glo_ok X G (c.fact 29 (f := .glo "_law_table") rfl)⟩⟩
  t_law_product := ⟨let ⟨fd, F⟩ := c.def_ 30 (d := d_law_product) rfl; ⟨_, fd, fun_of F, He.glo_ok X G (c.fact 30 (f := .glo "_law_product") rfl)⟩⟩
  t_law_staircase := ⟨let ⟨fd, F⟩ := c.def_ 31 (d := d_law_staircase) rfl; ⟨_, fd, fun_of F, He.glo_ok X G (c.fact 31 (f := .glo "_law_staircase") rfl)⟩⟩
  t_law_good := ⟨let ⟨fd, F⟩ := c.def_ 32 (d := d_law_good) rfl; ⟨_, fd, fun_of F, He.glo_ok X G (c.fact 32 (f := .glo "_law_good") rfl)⟩⟩
  t_law_moved := ⟨let ⟨fd, F⟩ := c.def_ 33 (d := d_law_moved) rfl; ⟨_, fd, fun_of F, He.glo_ok X G (c.fact 33 (f := .glo "_law_moved") rfl)⟩⟩
  t_law_spoilt := ⟨let ⟨fd, F⟩ := c.def_ 34 (d := d_law_spoilt) rfl; ⟨_, fd, fun_of F, He.glo_ok X G (c.fact 34 (f := .glo "_law_spoilt") rfl)⟩⟩
  t_law_asked := ⟨let ⟨fd, F⟩ := c.def_ 35 (d := d_law_asked) rfl; ⟨_, fd, fun_of F, He.glo_ok X G (c.fact 35 (f := .glo "_law_asked") rfl)⟩⟩
  t_law_thin := ⟨let ⟨fd, F⟩ := c.def_ 36 (d := d_law_thin) rfl; ⟨_, fd, fun_of F, He.glo_ok X G (c.fact 36 (f := .glo "_law_thin") rfl)⟩⟩
  t_law := ⟨let ⟨fd, F⟩ := c.def_ 37 (d := d_law) rfl; ⟨_, fd, fun_of F, He.glo_ok X G (c.fact 37 (f := .glo "law") rfl)⟩⟩
  g_SIZES := ⟨by
    obtain ⟨es, n, D⟩ := c2.tab 0 rfl
    have h3 : (He.valsB K (He.ga K "SIZES") _ && keysB K (He.ga K "SIZES") _) = true := c3
    rw [Bool.and_eq_true] at h3
    refine ⟨_, es, n, He.glo_ok X G (c.fact 56 (f := .glo "SIZES") rfl), D, fun z => ?_⟩
    by_cases e0 : z = "product"
    · subst e0
      obtain ⟨u, h1, h2⟩ := He.valsB_ok h3.1 (q := ("product", .int 4)) (by simp)
      exact ⟨some u, h1, u, rfl, h2⟩
    by_cases e1 : z = "same"
    · subst e1
      obtain ⟨u, h1, h2⟩ := He.valsB_ok h3.1 (q := ("same", .int 3)) (by simp)
      exact ⟨some u, h1, u, rfl, h2⟩
    by_cases e2 : z = "divides"
    · subst e2
      obtain ⟨u, h1, h2⟩ := He.valsB_ok h3.1 (q := ("divides", .int 3)) (by simp)
      exact ⟨some u, h1, u, rfl, h2⟩
    by_cases e3 : z = "not divides"
    · subst e3
      obtain ⟨u, h1, h2⟩ := He.valsB_ok h3.1 (q := ("not divides", .int 3)) (by simp)
      exact ⟨some u, h1, u, rfl, h2⟩
    by_cases e4 : z = "least"
    · subst e4
      obtain ⟨u, h1, h2⟩ := He.valsB_ok h3.1 (q := ("least", .int 3)) (by simp)
      exact ⟨some u, h1, u, rfl, h2⟩
    by_cases e5 : z = "less"
    · subst e5
      obtain ⟨u, h1, h2⟩ := He.valsB_ok h3.1 (q := ("less", .int 3)) (by simp)
      exact ⟨some u, h1, u, rfl, h2⟩
    by_cases e6 : z = "echelon"
    · subst e6
      obtain ⟨u, h1, h2⟩ := He.valsB_ok h3.1 (q := ("echelon", .int 2)) (by simp)
      exact ⟨some u, h1, u, rfl, h2⟩
    refine ⟨none, keys_none D h3.2 (by simp [e0, e1, e2, e3, e4, e5, e6]), ?_⟩
    have e : tab_SIZES z = none := by
      unfold tab_SIZES
      rw [if_neg e0, if_neg e1, if_neg e2, if_neg e3, if_neg e4, if_neg e5, if_neg e6]
    rw [e]⟩
theorem hfacts {P : Program} {w : World} {K : PySem.W.Frag} {h : Heap} {mg : Str → Option Value} {f : Addr} (X : K.In h) (G : h.Ns mainGlobals mg) (hfa' : mg ("law" : Str) = some (.ref f)) (c : He.SaysD hfa hfn K) (c2 : He.SaysT hfa hfn hts w K) (c3 : hex K = true) :
    ∃ fd : FuncData, (∀ (s : Shared) (v : Value), BindsTo s fd ⟨[v], []⟩ [("script", v)]) ∧ ∀ base : Heap, K.In base → base.Ns mainGlobals mg → FnOk P w K mg base CX0 8 f fd ["script"] (spLaw K) := by
  obtain ⟨fd, F⟩ := c.def_ 37 (d := d_law) rfl
  have e := hfa'.symm.trans (He.glo_ok X G (c.fact 37 (f := .glo "law") rfl))
  cases e
  have b := FunD.bindsA (ps := ["script"]) F fun _ _ _ _ _ _ us hl => match us, hl with | [_], _ => rfl
  exact ⟨fd, fun s v => b s [v] rfl, fun base _ _ => ok_law (g := ⟨P, w, K, mg, base⟩) (hwd X G c c2 c3) (fun_of F)⟩
end Ab
open PySem PySem.W PySem.Calls PyProof.Rows
theorem PySem.Challenge.cw_multipliedout_k02_whole_claims_taken_holds : PySem.Challenge.rw_multipliedout_k02_whole_claims_taken.Holds := by
  w_on; o_law
  refine HandSHeadRun.head_any (r := OpenLaw.row PySem.Challenge.rw_multipliedout_k02_whole_claims_taken) (q := view (OpenLaw.row PySem.Challenge.rw_multipliedout_k02_whole_claims_taken).prog [42]) (H := Ab.hhk) (ob := Ab.hob) (M := 4000) (loose := Ab.hloose) (d := HandSHeadRun.topDef (OpenLaw.row PySem.Challenge.rw_multipliedout_k02_whole_claims_taken).prog 42) (kwd := []) Ab.hob_eq
    (by kernel_rfl) (fun s => by kernel_rfl) Ab.hrun (by kernel_rfl) (by kernel_rfl) (by kernel_rfl) (by rfl) (by first | assumption | decide +kernel) (by decide +kernel) ⟨rfl, rfl, rfl, rfl, rfl, by decide +kernel⟩ ?hw ?hc
  case hw => w_witness2
  case hc =>
    refine L2.walk_ofE (l := PySem.Challenge.rw_multipliedout_k02_whole_claims_taken) (n := 63) (k := 8) (x := "script") (CX := L2.CX0) rfl (by decide) (by kernel_rfl) ⟨rfl, by decide, by decide⟩ ?F (fun _ _ _ _ z => z)
    intro w mg fa h Y G hmg0
    obtain ⟨K, KX, c⟩ := Y
    have hmg : mg ("law" : PySem.Str) = some (.ref fa) := by
      have e : (HandSHeadRun.topDef (OpenLaw.row PySem.Challenge.rw_multipliedout_k02_whole_claims_taken).prog 42).name = ("law" : PySem.Str) := by kernel_rfl
      rw [← e]
      exact hmg0
    obtain ⟨fd, hb, hF⟩ := Ab.hfacts (P := (PySem.Challenge.rw_multipliedout_k02_whole_claims_taken).prog) (w := w) KX G hmg c.t.d c.t c.more
    exact ⟨K, fd, Ab.spLaw K, KX, hb, fun H a ns hl _ hS => ⟨a, ns, rfl, hS, hl, fun _ => rfl⟩, hF⟩
