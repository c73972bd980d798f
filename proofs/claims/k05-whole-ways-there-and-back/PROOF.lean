import PyProof.Rows.All
import Wide.All
import OpenK.AllK
import Wide.FinOn
import PyProof.EqAt
import PyProof.EqKinds
import PyProof.TupleCall
import KE.KStateDown
import HandS.Base
import HandS.Call
import HandS.List
import HandS.Comp
import HandS.Lambda
import HandS.Exc
import HandS.ExcOwn
import HandS.Words
import HandS.WordsList
import HandS.TupAny
import HandS.TupMul
import HandS.Wide
import HandS.IsInst
import HandS.Style
import HandS.Dict
import HandS.Iter
import HandS.Zip
import HandS.More
import HandS.TupLe
import HandS.Conv
import HandS.Rev
import PyProof.ListRange
import HandS.Deep
import KE.GoesEnum
import PyProof.StrOps2
import HandS.Nested
import HandS.SortKw
import KE.KMinKey
import HandS.Ends
import HandS.WordsExc
import HandS.Defaults
import HandS.Head0
import HandS.Head1
import HandS.Head2
import HandS.HeadEnd
import HandS.HeadHook1
import HandS.HeadHook2
import HandS.HeadHook3
import HandS.HeadHook4
import HandS.EndBits
import HandS.EndTab
import HandS.HeadWalk
import PySem.Challenge.RW_multipliedout_k05_whole_ways_there_and_b
set_option Elab.async false
set_option linter.all false
set_option maxRecDepth 100000
set_option maxHeartbeats 4000000
section
set_option autoImplicit false
/-! Ab: a machine of plain data over the hand layer. Data never change; lists that do are numbered cells. -/
namespace Ab
open PySem PySem.Spec PyProof.Rows L2

inductive D where
  | non | bl (b : Bool) | int (i : Int) | str (s : Str) | tup (ds : List D) | lst (ds : List D) | dct (ks : List Key) (ds : List D)

mutual
inductive Rep (I : Hp) : D → V → Prop
  | non : Rep I .non .non
  | bl (b : Bool) : Rep I (.bl b) (.bl b)
  | int (i : Int) : Rep I (.int i) (.int i)
  | str (s : Str) : Rep I (.str s) (.str s)
  | tup {a : Addr} {xs : List V} {ds : List D} (h : I a = some (.tup xs)) (r : Reps I ds xs) : Rep I (.tup ds) (.ref a)
  | lst {a : Addr} {xs : List V} {ds : List D} (h : I a = some (.lst xs)) (r : Reps I ds xs) : Rep I (.lst ds) (.ref a)
  | dct {a : Addr} {kvs : List (Key × V)} {ds : List D} (h : I a = some (.dK kvs)) (r : Reps I ds (kvs.map (·.2))) : Rep I (.dct (kvs.map (·.1)) ds) (.ref a)
inductive Reps (I : Hp) : List D → List V → Prop
  | nil : Reps I [] []
  | cons {d : D} {ds : List D} {v : V} {vs : List V} (h : Rep I d v) (r : Reps I ds vs) : Reps I (d :: ds) (v :: vs)
end

def Ex (H H' : Hp) : Prop := ∀ a o, H a = some o → H' a = some o
theorem Ex.refl (H : Hp) : Ex H H := fun _ _ h => h
theorem Ex.trans {H H1 H2 : Hp} (a : Ex H H1) (b : Ex H1 H2) : Ex H H2 := fun x o h => b x o (a x o h)
theorem Ex.non {I H : Hp} {p : Addr} (e : Ex I H) (h : H p = none) : I p = none := by
  cases q : I p with
  | none => rfl
  | some o =>
    rw [e p o q] at h
    cases h
theorem Ex.new {H : Hp} {p : Addr} {o : HO} (h : H p = none) : Ex H (upd H p o) := fun a u e => by
  rw [upd_ne (ne_of_none e h)]
  exact e
theorem Ex.mut {I H : Hp} {p : Addr} {o : HO} (e : Ex I H) (h : I p = none) : Ex I (upd H p o) := fun a u ha => by
  rw [upd_ne (ne_of_none ha h)]
  exact e a u ha
theorem Ex.upd {I H : Hp} {p : Addr} {o : HO} (e : Ex I H) : Ex (upd I p o) (upd H p o) := fun a u ha => by
  by_cases h : a = p
  · subst h
    rw [upd_same] at ha ⊢
    exact ha
  · rw [upd_ne h] at ha ⊢
    exact e a u ha

mutual
theorem Rep.mono {I I' : Hp} (e : Ex I I') : ∀ {d : D} {v : V}, Rep I d v → Rep I' d v
  | _, _, .non => .non
  | _, _, .bl b => .bl b
  | _, _, .int i => .int i
  | _, _, .str s => .str s
  | _, _, .tup h r => .tup (e _ _ h) (Reps.mono e r)
  | _, _, .lst h r => .lst (e _ _ h) (Reps.mono e r)
  | _, _, .dct h r => .dct (e _ _ h) (Reps.mono e r)
theorem Reps.mono {I I' : Hp} (e : Ex I I') : ∀ {ds : List D} {vs : List V}, Reps I ds vs → Reps I' ds vs
  | _, _, .nil => .nil
  | _, _, .cons h r => .cons (Rep.mono e h) (Reps.mono e r)
end
theorem Reps.length {I : Hp} : ∀ {ds : List D} {vs : List V}, Reps I ds vs → ds.length = vs.length
  | _, _, .nil => rfl
  | _, _, .cons _ r => by rw [List.length_cons, List.length_cons, Reps.length r]
theorem Reps.get {I : Hp} : ∀ {ds : List D} {vs : List V} {i : Nat} {d : D}, Reps I ds vs → ds[i]? = some d → ∃ v, vs[i]? = some v ∧ Rep I d v
  | _, _, _, _, .nil, e => by simp at e
  | _, _, 0, _, .cons h _, e => by
    simp at e
    subst e
    exact ⟨_, rfl, h⟩
  | _, _, i + 1, _, .cons _ r, e => by
    obtain ⟨v, h1, h2⟩ := Reps.get (i := i) r (by simpa using e)
    exact ⟨v, by simpa using h1, h2⟩
theorem Reps.append {I : Hp} : ∀ {ds es : List D} {vs ws : List V}, Reps I ds vs → Reps I es ws → Reps I (ds ++ es) (vs ++ ws)
  | _, _, _, _, .nil, s => s
  | _, _, _, _, .cons h r, s => .cons h (Reps.append r s)
theorem Reps.take {I : Hp} : ∀ {ds : List D} {vs : List V} (n : Nat), Reps I ds vs → Reps I (ds.take n) (vs.take n)
  | _, _, 0, _ => .nil
  | _, _, _ + 1, .nil => .nil
  | _, _, n + 1, .cons h r => .cons h (Reps.take n r)
theorem Reps.drop {I : Hp} : ∀ {ds : List D} {vs : List V} (n : Nat), Reps I ds vs → Reps I (ds.drop n) (vs.drop n)
  | _, _, 0, r => r
  | _, _, _ + 1, .nil => .nil
  | _, _, n + 1, .cons _ r => Reps.drop n r
theorem Reps.reverse {I : Hp} : ∀ {ds : List D} {vs : List V}, Reps I ds vs → Reps I ds.reverse vs.reverse
  | _, _, .nil => .nil
  | _, _, .cons h r => by
    rw [List.reverse_cons, List.reverse_cons]
    exact Reps.append (Reps.reverse r) (.cons h .nil)
theorem Reps.rep {I : Hp} {ds : List D} {vs : List V} (h : Reps I ds vs) : ∀ n : Nat, Reps I (List.replicate n ds).flatten (List.replicate n vs).flatten
  | 0 => .nil
  | n + 1 => by
    rw [List.replicate_succ, List.replicate_succ, List.flatten_cons, List.flatten_cons]
    exact Reps.append h (Reps.rep h n)

/-! ### slots, cells -/
inductive O where
  | no | dat (d : D) | adr (k : Nat) | scr (a : Addr) (u : Option HO) | obj (C : Addr) (fs : List (Str × Nat))
abbrev Mem := List (Option (List O))

theorem prUn {α β γ : Type} {F : β → γ → Prop} {m : α → β} : ∀ {l : List α} {k : List γ}, Paired F (l.map m) k → Paired (fun a c => F (m a) c) l k
  | [], _, .nil => .nil
  | _ :: _, _, .cons h r => .cons h (prUn r)
theorem prImp {α β : Type} {F G : α → β → Prop} : ∀ {l : List α} {k : List β}, Paired F l k → (∀ a ∈ l, ∀ b, F a b → G a b) → Paired G l k
  | _, _, .nil, _ => .nil
  | _, _, .cons h r, q => .cons (q _ List.mem_cons_self _ h) (prImp r fun a ha => q a (List.mem_cons_of_mem _ ha))
theorem prLeft {α β : Type} {F : α → β → Prop} : ∀ {l : List α} {k : List β}, Paired F l k → ∀ a ∈ l, ∃ b, F a b
  | _, _, .cons h r, a, ha => by
    rcases List.mem_cons.mp ha with e | e
    · subst e
      exact ⟨_, h⟩
    · exact prLeft r a e
theorem prDo {α β γ : Type} {F : β → γ → Prop} {m : α → β} : ∀ {l : List α} {k : List γ}, Paired (fun a c => F (m a) c) l k → Paired F (l.map m) k
  | [], _, .nil => .nil
  | _ :: _, _, .cons h r => .cons h (prDo r)
theorem prMap {α β : Type} {F G : α → β → Prop} {l : List α} {k : List β} (h : Paired F l k) (q : ∀ a b, F a b → G a b) : Paired G l k := prImp h fun a _ b z => q a b z
def Vo (I : Hp) (adr : List Addr) : O → V → Prop
  | .no, _ => True
  | .dat d, v => Rep I d v
  | .adr k, v => ∃ a, adr[k]? = some a ∧ v = .ref a
  | .scr a u, v => v = .ref a ∧ ∀ o, u = some o → I a = some o
  | .obj C fs, v => ∃ p dx gs, v = .ref p ∧ I p = some (.ins C dx gs) ∧ Paired (fun (f : Str × Nat) (g : Str × V) => f.1 = g.1 ∧ ∃ a, adr[f.2]? = some a ∧ g.2 = .ref a) fs gs
def Vso (I : Hp) (adr : List Addr) (o : O) (ov : Option V) : Prop := match ov with
  | some v => Vo I adr o v
  | none => o = .no
abbrev Vs (I : Hp) (adr : List Addr) : List O → List V → Prop := Paired (Vo I adr)

/-- the tables of code objects that grow -/
class TabCtx where
  T : List (Addr × Str)
/-- all but such tables -/
def NT (u : HO) : Prop := ∀ ps, u ≠ .tbl ps
theorem NT.lst {xs : List V} : NT (.lst xs) := fun _ z => by cases z
theorem NT.tup {xs : List V} : NT (.tup xs) := fun _ z => by cases z
theorem NT.dK {xs : List (Key × V)} : NT (.dK xs) := fun _ z => by cases z
variable [TabCtx]
structure Amb (I H : Hp) : Prop where
  tabs : LamX.Tabs TabCtx.T H
  nt : ∀ a u, I a = some u → NT u
theorem Amb.same {I I' H : Hp} (a : Amb I H) (h : ∀ b u, I' b = some u → NT u) : Amb I' H := ⟨a.tabs, h⟩
theorem Amb.new {I H : Hp} {p : Addr} {o : HO} (a : Amb I H) (hp : H p = none) : Amb I (upd H p o) := ⟨a.tabs.ext fun b u h => by rw [upd_ne (ne_of_none h hp)]; exact h, a.nt⟩
theorem Amb.ext {I H : Hp} {p : Addr} {o : HO} (a : Amb I H) (hp : H p = none) (ho : NT o) : Amb (upd I p o) (upd H p o) := ⟨(a.new hp).tabs, fun b u h => by
  by_cases e : b = p
  · subst e
    rw [upd_same] at h
    cases h
    exact ho
  · rw [upd_ne e] at h
    exact a.nt b u h⟩
theorem Amb.wri {I H : Hp} {p : Addr} {xs ys : List V} (a : Amb I H) (hp : H p = some (.lst xs)) : Amb I (upd H p (.lst ys)) := ⟨fun q hq => by
  obtain ⟨ps, h1, h2, h3⟩ := a.tabs q hq
  have ne : ∀ b u, H b = some u → (∀ zs, u ≠ .lst zs) → b ≠ p := fun b u h n z => by
    rw [z, hp] at h
    exact n xs (Option.some.inj h).symm
  refine ⟨ps, by rw [upd_ne (ne _ _ h1 (fun _ z => by cases z))]; exact h1, h2, fun pos cv hc => ?_⟩
  obtain ⟨c, e1, e2⟩ := h3 pos cv hc
  exact ⟨c, e1, by rw [upd_ne (ne _ _ e2 (fun _ z => by unfold LamX.CodeO at z; cases z))]; exact e2⟩, a.nt⟩
structure Sto (I H : Hp) (adr : List Addr) (M : Mem) : Prop where
  len : adr.length = M.length
  nd : adr.Nodup
  cell : ∀ (k : Nat) (a : Addr) (os : List O), adr[k]? = some a → M[k]? = some (some os) → I a = none ∧ ∃ xs, H a = some (.lst xs) ∧ Vs I adr os xs
  dom : ∀ (k : Nat) (a : Addr), adr[k]? = some a → ∃ u, H a = some u ∧ NT u
  amb : Amb I H
structure Stt (I H : Hp) (adr : List Addr) (σ : L2.St) (E : List O) (M : Mem) : Prop where
  ex : Ex I H
  sto : Sto I H adr M
  len : E.length = σ.length
  slot : ∀ (i : Nat) (o : O) (ov : Option V), E[i]? = some o → σ[i]? = some ov → Vso I adr o ov
def Frs (H : Hp) (p : Addr) : Prop := ∀ u, H p = some u → ¬ NT u
theorem Frs.of {H : Hp} {p : Addr} (h : H p = none) : Frs H p := fun u e => by rw [h] at e; cases e
structure Grow (I H : Hp) (adr : List Addr) (I' H' : Hp) (adr' : List Addr) : Prop where
  ex : Ex I I'
  new : ∃ nw, adr' = adr ++ nw ∧ ∀ p ∈ nw, Frs H p
  keep : ∀ p u, H p = some u → NT u → p ∉ adr → H' p = some u
  dom : ∀ p u, H p = some u → NT u → ∃ u', H' p = some u' ∧ NT u'
  out : ∀ p u, H p = some u → NT u → I p = none → p ∉ adr → I' p = none
  code : ∀ c q, H c = some (LamX.CodeO c q) → H' c = some (LamX.CodeO c q)

section
variable {I H I1 H1 I2 H2 I' H' : Hp} {adr adr1 adr2 adr' : List Addr} {σ : L2.St} {E : List O} {M M' : Mem}
theorem Grow.refl : Grow I H adr I H adr := ⟨Ex.refl _, ⟨[], by simp, by simp⟩, fun _ _ h _ _ => h, fun _ u h n => ⟨u, h, n⟩, fun _ _ _ _ h _ => h, fun _ _ h => h⟩
theorem Grow.trans (a : Grow I H adr I1 H1 adr1) (b : Grow I1 H1 adr1 I2 H2 adr2) : Grow I H adr I2 H2 adr2 := by
  obtain ⟨nw, rfl, hn⟩ := a.new
  obtain ⟨nv, rfl, hv⟩ := b.new
  have nin : ∀ p u, H p = some u → NT u → p ∉ adr → p ∉ adr ++ nw := fun p u h n q z => by
    rcases List.mem_append.mp z with z | z
    · exact q z
    · exact hn p z u h n
  refine ⟨a.ex.trans b.ex, ⟨nw ++ nv, by rw [List.append_assoc], fun p hp => ?_⟩, fun p u h n q => b.keep p u (a.keep p u h n q) n (nin p u h n q), fun p u h n => ?_, fun p u h n q r => b.out p u (a.keep p u h n r) n (a.out p u h n q r) (nin p u h n r), fun c q h => b.code c q (a.code c q h)⟩
  · rcases List.mem_append.mp hp with z | z
    · exact hn p z
    · intro u q n
      obtain ⟨u', e, n'⟩ := a.dom p u q n
      exact hv p z u' e n'
  · obtain ⟨u', e, n'⟩ := a.dom p u h n
    exact b.dom p u' e n'
theorem Grow.get (g : Grow I H adr I' H' adr') {k : Nat} {a : Addr} (h : adr[k]? = some a) : adr'[k]? = some a := by
  obtain ⟨nw, rfl, _⟩ := g.new
  rw [List.getElem?_append_left (List.getElem?_eq_some_iff.mp h).1]
  exact h
theorem Vo.mono (g : Grow I H adr I' H' adr') : ∀ {o : O} {v : V}, Vo I adr o v → Vo I' adr' o v
  | .no, _, _ => True.intro
  | .dat _, _, h => Rep.mono g.ex h
  | .adr _, _, h => by
    obtain ⟨a, h1, h2⟩ := h
    exact ⟨a, g.get h1, h2⟩
  | .scr _ _, _, h => ⟨h.1, fun o q => g.ex _ _ (h.2 o q)⟩
  | .obj _ _, _, h => by
    obtain ⟨p, dx, gs, h1, h2, h3⟩ := h
    exact ⟨p, dx, gs, h1, g.ex _ _ h2, prMap h3 fun f g' q => ⟨q.1, let ⟨a, e1, e2⟩ := q.2; ⟨a, g.get e1, e2⟩⟩⟩
theorem Vo.ext (e : Ex I I') : ∀ {o : O} {v : V}, Vo I adr o v → Vo I' adr o v
  | .no, _, _ => True.intro
  | .dat _, _, h => Rep.mono e h
  | .adr _, _, h => h
  | .scr _ _, _, h => ⟨h.1, fun o q => e _ _ (h.2 o q)⟩
  | .obj _ _, _, h => by
    obtain ⟨p, dx, gs, h1, h2, h3⟩ := h
    exact ⟨p, dx, gs, h1, e _ _ h2, h3⟩
theorem Vo.more {nw : List Addr} : ∀ {o : O} {v : V}, Vo I adr o v → Vo I (adr ++ nw) o v
  | .no, _, _ => True.intro
  | .dat _, _, h => h
  | .adr _, _, h => by
    obtain ⟨a, h1, h2⟩ := h
    exact ⟨a, by rw [List.getElem?_append_left (List.getElem?_eq_some_iff.mp h1).1]; exact h1, h2⟩
  | .scr _ _, _, h => h
  | .obj _ _, _, h => by
    obtain ⟨p, dx, gs, h1, h2, h3⟩ := h
    exact ⟨p, dx, gs, h1, h2, prMap h3 fun f g' q => ⟨q.1, let ⟨a, e1, e2⟩ := q.2; ⟨a, by rw [List.getElem?_append_left (List.getElem?_eq_some_iff.mp e1).1]; exact e1, e2⟩⟩⟩
theorem Vs.mono (g : Grow I H adr I' H' adr') : ∀ {os : List O} {vs : List V}, Vs I adr os vs → Vs I' adr' os vs
  | _, _, .nil => .nil
  | _, _, .cons h r => .cons (Vo.mono g h) (Vs.mono g r)
theorem Vs.ext (e : Ex I I') : ∀ {os : List O} {vs : List V}, Vs I adr os vs → Vs I' adr os vs
  | _, _, .nil => .nil
  | _, _, .cons h r => .cons (Vo.ext e h) (Vs.ext e r)
theorem Vs.more {nw : List Addr} : ∀ {os : List O} {vs : List V}, Vs I adr os vs → Vs I (adr ++ nw) os vs
  | _, _, .nil => .nil
  | _, _, .cons h r => .cons (Vo.more h) (Vs.more r)
theorem Vs.app : ∀ {os ps : List O} {vs ws : List V}, Vs I adr os vs → Vs I adr ps ws → Vs I adr (os ++ ps) (vs ++ ws)
  | _, _, _, _, .nil, s => s
  | _, _, _, _, .cons h r, s => .cons h (Vs.app r s)
theorem Vs.length {os : List O} {vs : List V} (h : Vs I adr os vs) : os.length = vs.length := Paired.length h
theorem Vs.get : ∀ {os : List O} {vs : List V} {i : Nat} {o : O}, Vs I adr os vs → os[i]? = some o → ∃ v, vs[i]? = some v ∧ Vo I adr o v
  | _, _, _, _, .nil, e => by simp at e
  | _, _, 0, _, .cons h _, e => by
    simp at e
    subst e
    exact ⟨_, rfl, h⟩
  | _, _, i + 1, _, .cons _ r, e => by
    obtain ⟨v, h1, h2⟩ := Vs.get (i := i) r (by simpa using e)
    exact ⟨v, by simpa using h1, h2⟩
theorem Vs.set {o : O} {v : V} (h : Vo I adr o v) : ∀ {os : List O} {vs : List V} (i : Nat), Vs I adr os vs → Vs I adr (os.set i o) (vs.set i v)
  | _, _, _, .nil => .nil
  | _, _, 0, .cons _ r => .cons h r
  | _, _, i + 1, .cons q r => .cons q (Vs.set h i r)
theorem Vs.take : ∀ {os : List O} {vs : List V} (n : Nat), Vs I adr os vs → Vs I adr (os.take n) (vs.take n)
  | _, _, 0, _ => .nil
  | _, _, _ + 1, .nil => .nil
  | _, _, n + 1, .cons h r => .cons h (Vs.take n r)
theorem Vs.drop : ∀ {os : List O} {vs : List V} (n : Nat), Vs I adr os vs → Vs I adr (os.drop n) (vs.drop n)
  | _, _, 0, r => r
  | _, _, _ + 1, .nil => .nil
  | _, _, n + 1, .cons _ r => Vs.drop n r
theorem Vs.dropLast : ∀ {os : List O} {vs : List V}, Vs I adr os vs → Vs I adr os.dropLast vs.dropLast
  | _, _, .nil => .nil
  | _, _, .cons _ .nil => .nil
  | _, _, .cons h (.cons h2 r) => .cons h (Vs.dropLast (.cons h2 r))
theorem Vs.reps : ∀ {ds : List D} {vs : List V}, Reps I ds vs → Vs I adr (ds.map .dat) vs
  | _, _, .nil => .nil
  | _, _, .cons h r => .cons h (Vs.reps r)
theorem Vs.to : ∀ {ds : List D} {vs : List V}, Vs I adr (ds.map .dat) vs → Reps I ds vs
  | [], _, .nil => .nil
  | _ :: _, _, .cons h r => .cons h (Vs.to r)
theorem Vso.mono (g : Grow I H adr I' H' adr') {o : O} : ∀ {ov : Option V}, Vso I adr o ov → Vso I' adr' o ov
  | some _, h => Vo.mono g h
  | none, h => h
theorem Stt.mono (s : Stt I H adr σ E M) (g : Grow I H adr I' H' adr') (e : Ex I' H') (t : Sto I' H' adr' M') : Stt I' H' adr' σ E M' :=
  ⟨e, t, s.len, fun i o ov h1 h2 => (s.slot i o ov h1 h2).mono g⟩
theorem Stt.inB (s : Stt I H adr σ E M) {k : Nat} {a : Addr} (h : adr[k]? = some a) : k < M.length := by
  rw [← s.sto.len]
  exact (List.getElem?_eq_some_iff.mp h).1
/-- a new thing that never changes -/
theorem Sto.ext {o : HO} {p : Addr} (t : Sto I H adr M) (hi : I p = none) (hp : H p = none) (ho : NT o) : Sto (upd I p o) (upd H p o) adr M := by
  have ne : ∀ (k : Nat) (a : Addr), adr[k]? = some a → a ≠ p := fun k a h => by
    obtain ⟨u, e, _⟩ := t.dom k a h
    exact ne_of_none e hp
  refine ⟨t.len, t.nd, fun k a os h1 h2 => ?_, fun k a h => ?_, t.amb.ext hp ho⟩
  · obtain ⟨h3, xs, h4, h5⟩ := t.cell k a os h1 h2
    refine ⟨by rw [upd_ne (ne k a h1)]; exact h3, xs, by rw [upd_ne (ne k a h1)]; exact h4, ?_⟩
    exact h5.ext (Ex.new hi)
  · obtain ⟨u, e, n⟩ := t.dom k a h
    exact ⟨u, by rw [upd_ne (ne k a h)]; exact e, n⟩
theorem Grow.ext {o : HO} {p : Addr} (hi : I p = none) (hp : H p = none) : Grow I H adr (upd I p o) (upd H p o) adr := by
  refine ⟨Ex.new hi, ⟨[], by simp, by simp⟩, fun q u h _ _ => ?_, fun q u h n => ⟨u, ?_, n⟩, fun q u h _ h2 _ => ?_, fun c q h => by rw [upd_ne (ne_of_none h hp)]; exact h⟩
  · rw [upd_ne (ne_of_none h hp)]; exact h
  · rw [upd_ne (ne_of_none h hp)]; exact h
  · rw [upd_ne (ne_of_none h hp)]; exact h2
theorem Stt.ext {o : HO} {p : Addr} (s : Stt I H adr σ E M) (hp : H p = none) (ho : NT o) : Stt (upd I p o) (upd H p o) adr σ E M ∧ Grow I H adr (upd I p o) (upd H p o) adr := by
  have hi := s.ex.non hp
  have g : Grow I H adr (upd I p o) (upd H p o) adr := Grow.ext hi hp
  exact ⟨s.mono g s.ex.upd (s.sto.ext hi hp ho), g⟩
theorem Stt.tup {p : Addr} {xs : List V} {ds : List D} (s : Stt I H adr σ E M) (hp : H p = none) (r : Reps I ds xs) :
    Stt (upd I p (.tup xs)) (upd H p (.tup xs)) adr σ E M ∧ Grow I H adr (upd I p (.tup xs)) (upd H p (.tup xs)) adr ∧ Rep (upd I p (.tup xs)) (.tup ds) (.ref p) :=
  let ⟨a, b⟩ := s.ext (o := .tup xs) hp NT.tup
  ⟨a, b, .tup upd_same (r.mono b.ex)⟩
theorem Stt.lst {p : Addr} {xs : List V} {ds : List D} (s : Stt I H adr σ E M) (hp : H p = none) (r : Reps I ds xs) :
    Stt (upd I p (.lst xs)) (upd H p (.lst xs)) adr σ E M ∧ Grow I H adr (upd I p (.lst xs)) (upd H p (.lst xs)) adr ∧ Rep (upd I p (.lst xs)) (.lst ds) (.ref p) :=
  let ⟨a, b⟩ := s.ext (o := .lst xs) hp NT.lst
  ⟨a, b, .lst upd_same (r.mono b.ex)⟩
/-- a new cell -/
theorem Stt.cel {p : Addr} {xs : List V} {os : List O} (s : Stt I H adr σ E M) (hp : H p = none) (r : Vs I adr os xs) :
    Stt I (upd H p (.lst xs)) (adr ++ [p]) σ E (M ++ [some os]) ∧ Grow I H adr I (upd H p (.lst xs)) (adr ++ [p]) ∧ (adr ++ [p])[M.length]? = some p := by
  have hi := s.ex.non hp
  have ne : ∀ (k : Nat) (a : Addr), adr[k]? = some a → a ≠ p := fun k a h => by
    obtain ⟨u, e, _⟩ := s.sto.dom k a h
    exact ne_of_none e hp
  have g : Grow I H adr I (upd H p (.lst xs)) (adr ++ [p]) := by
    refine ⟨Ex.refl _, ⟨[p], rfl, fun q hq => by rw [List.mem_singleton.mp hq]; exact Frs.of hp⟩, fun q u h _ _ => ?_, fun q u h n => ⟨u, ?_, n⟩, fun q u h _ h2 _ => h2, fun c q h => by rw [upd_ne (ne_of_none h hp)]; exact h⟩
    · rw [upd_ne (ne_of_none h hp)]; exact h
    · rw [upd_ne (ne_of_none h hp)]; exact h
  have at_p : (adr ++ [p])[M.length]? = some p := by
    rw [← s.sto.len, List.getElem?_append_right (Nat.le_refl _), Nat.sub_self]
    rfl
  have old : ∀ (k : Nat) (a : Addr), (adr ++ [p])[k]? = some a → (k < adr.length ∧ adr[k]? = some a) ∨ (k = adr.length ∧ a = p) := fun k a h => by
    by_cases hk : k < adr.length
    · rw [List.getElem?_append_left hk] at h
      exact .inl ⟨hk, h⟩
    · rw [List.getElem?_append_right (Nat.le_of_not_lt hk)] at h
      have hk2 : k - adr.length = 0 := by
        have := (List.getElem?_eq_some_iff.mp h).1
        simp at this
        omega
      rw [hk2] at h
      simp at h
      exact .inr ⟨by omega, h.symm⟩
  refine ⟨s.mono g (s.ex.mut hi) ⟨by simp [s.sto.len], ?_, fun k a os' h1 h2 => ?_, fun k a h => ?_, s.sto.amb.new hp⟩, g, at_p⟩
  · rw [List.nodup_append]
    refine ⟨s.sto.nd, by simp, fun a ha b hb z => ?_⟩
    obtain ⟨k, hk⟩ := List.getElem?_of_mem ha
    rw [List.mem_singleton] at hb
    exact ne k a hk (z.trans hb)
  · rcases old k a h1 with ⟨hk, h3⟩ | ⟨hk, rfl⟩
    · rw [List.getElem?_append_left (by rw [← s.sto.len]; exact hk)] at h2
      obtain ⟨c1, ys, c2, c3⟩ := s.sto.cell k a os' h3 h2
      exact ⟨c1, ys, by rw [upd_ne (ne k a h3)]; exact c2, c3.more⟩
    · rw [hk, s.sto.len, List.getElem?_append_right (Nat.le_refl _), Nat.sub_self] at h2
      have e : os = os' := by simpa using h2
      subst e
      exact ⟨hi, xs, upd_same, r.more⟩
  · rcases old k a h with ⟨hk, h3⟩ | ⟨hk, rfl⟩
    · obtain ⟨u, e, n⟩ := s.sto.dom k a h3
      exact ⟨u, by rw [upd_ne (ne k a h3)]; exact e, n⟩
    · exact ⟨_, upd_same, NT.lst⟩
/-- a cell is written -/
theorem Stt.wri {k : Nat} {a : Addr} {xs : List V} {os os0 : List O} (s : Stt I H adr σ E M) (ha : adr[k]? = some a) (hm : M[k]? = some (some os0)) (r : Vs I adr os xs) :
    Stt I (upd H a (.lst xs)) adr σ E (M.set k (some os)) ∧ Grow I H adr I (upd H a (.lst xs)) adr := by
  obtain ⟨hi, ys, hy, _⟩ := s.sto.cell k a os0 ha hm
  have hin : a ∈ adr := List.mem_of_getElem? ha
  have g : Grow I H adr I (upd H a (.lst xs)) adr := by
    refine ⟨Ex.refl _, ⟨[], by simp, by simp⟩, fun q u h _ hq => ?_, fun q u h n => ?_, fun q u h _ h2 _ => h2, fun c q h => by rw [upd_ne (fun z => by rw [z, hy] at h; unfold LamX.CodeO at h; cases h)]; exact h⟩
    · rw [upd_ne (fun z => hq (by rw [z]; exact hin))]; exact h
    · by_cases z : q = a
      · subst z; exact ⟨_, upd_same, NT.lst⟩
      · exact ⟨u, by rw [upd_ne z]; exact h, n⟩
  have uniq : ∀ (j : Nat) (b : Addr), adr[j]? = some b → j ≠ k → b ≠ a := fun j b hb hj z => by
    subst z
    exact hj (List.getElem?_inj (List.getElem?_eq_some_iff.mp hb).1 s.sto.nd |>.mp (hb.trans ha.symm))
  refine ⟨s.mono g (s.ex.mut hi) ⟨by rw [List.length_set]; exact s.sto.len, s.sto.nd, fun j b ps h1 h2 => ?_, fun j b h => ?_, s.sto.amb.wri hy⟩, g⟩
  · by_cases hj : j = k
    · subst hj
      rw [h1] at ha
      cases ha
      rw [List.getElem?_set_self (s.inB h1)] at h2
      have e : os = ps := by simpa using h2
      subst e
      exact ⟨hi, xs, upd_same, r⟩
    · rw [List.getElem?_set_ne (fun z => hj z.symm)] at h2
      obtain ⟨c1, zs, c2, c3⟩ := s.sto.cell j b ps h1 h2
      exact ⟨c1, zs, by rw [upd_ne (uniq j b h1 hj)]; exact c2, c3⟩
  · by_cases z : b = a
    · subst z; exact ⟨_, upd_same, NT.lst⟩
    · obtain ⟨u, e, n⟩ := s.sto.dom j b h
      exact ⟨u, by rw [upd_ne z]; exact e, n⟩
/-- a cell of data is frozen -/
theorem Stt.frz {k : Nat} {a : Addr} {ds : List D} (s : Stt I H adr σ E M) (ha : adr[k]? = some a) (hm : M[k]? = some (some (ds.map .dat))) :
    ∃ I', Stt I' H adr σ E (M.set k none) ∧ Grow I H adr I' H adr ∧ Rep I' (.lst ds) (.ref a) := by
  obtain ⟨hi, ys, hy, hr⟩ := s.sto.cell k a _ ha hm
  have hin : a ∈ adr := List.mem_of_getElem? ha
  have g : Grow I H adr (upd I a (.lst ys)) H adr := by
    refine ⟨Ex.new hi, ⟨[], by simp, by simp⟩, fun q u h _ hq => h, fun q u h n => ⟨u, h, n⟩, fun q u h _ h2 hq => ?_, fun _ _ h => h⟩
    rw [upd_ne (fun z => hq (by rw [z]; exact hin))]; exact h2
  have ex : Ex (upd I a (.lst ys)) H := fun q u h => by
    by_cases z : q = a
    · subst z; rw [upd_same] at h; cases h; exact hy
    · rw [upd_ne z] at h; exact s.ex q u h
  refine ⟨upd I a (.lst ys), s.mono g ex ⟨by rw [List.length_set]; exact s.sto.len, s.sto.nd, fun j b ps h1 h2 => ?_, s.sto.dom, s.sto.amb.same fun b u h => ?_⟩, g, .lst upd_same (hr.to.mono g.ex)⟩
  · by_cases hj : j = k
    · subst hj
      rw [List.getElem?_set_self (s.inB h1)] at h2
      cases h2
    · rw [List.getElem?_set_ne (fun z => hj z.symm)] at h2
      obtain ⟨c1, zs, c2, c3⟩ := s.sto.cell j b ps h1 h2
      have ne : b ≠ a := fun z => by
        subst z
        exact hj (List.getElem?_inj (List.getElem?_eq_some_iff.mp h1).1 s.sto.nd |>.mp (h1.trans ha.symm))
      exact ⟨by rw [upd_ne ne]; exact c1, zs, c2, c3.ext g.ex⟩
  · by_cases e : b = a
    · subst e
      rw [upd_same] at h
      cases h
      exact NT.lst
    · rw [upd_ne e] at h
      exact s.sto.amb.nt b u h
theorem Stt.set {i : Nat} {o : O} {v : V} (s : Stt I H adr σ E M) (h : Vo I adr o v) : Stt I H adr (σ.set i (some v)) (E.set i o) M := by
  refine ⟨s.ex, s.sto, by rw [List.length_set, List.length_set]; exact s.len, fun j p ov h1 h2 => ?_⟩
  by_cases hj : j = i
  · subst hj
    by_cases hl : j < E.length
    · rw [List.getElem?_set_self hl] at h1
      rw [List.getElem?_set_self (by rw [← s.len]; exact hl)] at h2
      cases h1
      cases h2
      exact h
    · have := (List.getElem?_eq_some_iff.mp h1).1
      rw [List.length_set] at this
      exact absurd this hl
  · rw [List.getElem?_set_ne (fun z => hj z.symm)] at h1 h2
    exact s.slot j p ov h1 h2
theorem Stt.frame {k : Nat} (s : Stt I H adr σ E M) : Stt I H adr [] [] M := ⟨s.ex, s.sto, rfl, fun i o ov h _ => by simp at h⟩
end
end Ab
/-! Ab: judgements. -/
namespace Ab
open PySem PySem.Spec PyProof.Rows L2
variable [TabCtx]

/-! ### readings -/
def Ev (t : TE) (E : List O) (M : Mem) (o : O) (M' : Mem) : Prop :=
  ∀ (I H : Hp) (adr : List Addr) (σ : L2.St) (Q : VK), Stt I H adr σ E M → (∀ v I' H' adr', Stt I' H' adr' σ E M' → Grow I H adr I' H' adr' → Vo I' adr' o v → Q v H') → t σ H Q
def Et (t : TT) (E : List O) (M : Mem) (b : Bool) (M' : Mem) : Prop :=
  ∀ (I H : Hp) (adr : List Addr) (σ : L2.St) (Q : Bool → Hp → Prop), Stt I H adr σ E M → (∀ I' H' adr', Stt I' H' adr' σ E M' → Grow I H adr I' H' adr' → Q b H') → t σ H Q
def Ea (t : TA) (E : List O) (M : Mem) (os : List O) (M' : Mem) : Prop :=
  ∀ (I H : Hp) (adr : List Addr) (σ : L2.St) (Q : List V → Hp → Prop), Stt I H adr σ E M → (∀ vs I' H' adr', Stt I' H' adr' σ E M' → Grow I H adr I' H' adr' → Vs I' adr' os vs → Q vs H') → t σ H Q
inductive Out where
  | nx (E : List O) (M : Mem) | rt (o : O) (M : Mem) | bk (E : List O) (M : Mem) | ct (E : List O) (M : Mem)
def End (D : Ends) (I H : Hp) (adr : List Addr) : Out → Prop
  | .nx E M => ∀ I' H' adr' σ', Stt I' H' adr' σ' E M → Grow I H adr I' H' adr' → D.nx σ' H'
  | .rt o M => ∀ v I' H' adr', Stt I' H' adr' [] [] M → Grow I H adr I' H' adr' → Vo I' adr' o v → D.rt v H'
  | .bk E M => ∀ I' H' adr' σ', Stt I' H' adr' σ' E M → Grow I H adr I' H' adr' → D.bk σ' H'
  | .ct E M => ∀ I' H' adr' σ', Stt I' H' adr' σ' E M → Grow I H adr I' H' adr' → D.ct σ' H'
theorem End.mono {D : Ends} {I H I1 H1 : Hp} {adr adr1 : List Addr} (g : Grow I H adr I1 H1 adr1) : ∀ {r : Out}, End D I H adr r → End D I1 H1 adr1 r
  | .nx _ _, h => fun I' H' adr' σ' s k => h I' H' adr' σ' s (g.trans k)
  | .rt _ _, h => fun v I' H' adr' s k => h v I' H' adr' s (g.trans k)
  | .bk _ _, h => fun I' H' adr' σ' s k => h I' H' adr' σ' s (g.trans k)
  | .ct _ _, h => fun I' H' adr' σ' s k => h I' H' adr' σ' s (g.trans k)
def Do (t : TS) (E : List O) (M : Mem) (r : Out) : Prop :=
  ∀ (I H : Hp) (adr : List Addr) (σ : L2.St) (D : Ends), Stt I H adr σ E M → End D I H adr r → t D σ H

/-! ### contexts -/
structure Pg where
  P : Program
  w : World
  K : PySem.W.Frag
  mg : Str → Option Value
  base : Heap
structure Cc where
  g : Pg
  N : List Str
  sc : Scope
  fn : Str → Bool
  k : Nat
  W : WX
  cd : Option (Value × Str)
structure CxIs (C : Cc) (X : Cx) : Prop where
  P : X.prog = C.g.P
  w : X.w = C.g.w
  K : X.K = C.g.K
  mg : X.mg = C.g.mg
  base : X.base = C.g.base
  N : X.N = C.N
  sc : X.env.scope = C.sc
  calm : X.calm = true
  room : Room C.k X.A
  po : PassesOwn (model X.prog X.w) X.A X.env X.xe
  tk : L2.Takes X C.W
  fn : ∀ x, C.fn x = true → X.fn x = true
  cd : ∀ c q, C.cd = some (c, q) → X.env.code = c ∧ X.env.qual = q
  fr : ∃ env l, X.stack = env :: l ∧ env.scope.isGenerator = false ∧ env.scope.isCoroutine = false ∧ env.builtins = builtinsNs ∧ env.globals = mainGlobals

def UE (C : Cc) (e : Expr) : TE := fun σ H Q => ∃ t : TE, (∀ X, CxIs C X → PE X e t) ∧ t σ H Q
def UT (C : Cc) (e : Expr) : TT := fun σ H Q => ∃ t : TT, (∀ X, CxIs C X → PT X e t) ∧ t σ H Q
def UW (C : Cc) (e : Expr) : TT := fun σ H Q => ∃ t : TT, (∀ X, CxIs C X → PW X e t) ∧ t σ H Q
def UA (C : Cc) (es : List Expr) : TA := fun σ H Q => ∃ t : TA, (∀ X, CxIs C X → PA X es t) ∧ t σ H Q
def US (C : Cc) (st : Stmt) : TS := fun D σ H => ∃ t : TS, (∀ X, CxIs C X → PS X st t) ∧ t D σ H
def UB (C : Cc) (sts : List Stmt) : TS := fun D σ H => ∃ t : TS, (∀ X, CxIs C X → PSs X sts t) ∧ t D σ H
theorem ue {C : Cc} {X : Cx} (h : CxIs C X) (e : Expr) : PE X e (UE C e) := ⟨fun pins s σ H Q I q => let ⟨_, p, q⟩ := q; (p X h).run pins s σ H Q I q⟩
theorem ut {C : Cc} {X : Cx} (h : CxIs C X) (e : Expr) : PT X e (UT C e) := ⟨fun pins s σ H Q I q => let ⟨_, p, q⟩ := q; (p X h).run pins s σ H Q I q⟩
theorem uw {C : Cc} {X : Cx} (h : CxIs C X) (e : Expr) : PW X e (UW C e) := ⟨fun wh pins s σ H Q I q => let ⟨_, p, q⟩ := q; (p X h).run wh pins s σ H Q I q⟩
theorem ua {C : Cc} {X : Cx} (h : CxIs C X) (es : List Expr) : PA X es (UA C es) := ⟨fun pos pins s σ H Q I q => let ⟨_, p, q⟩ := q; (p X h).run pos pins s σ H Q I q⟩
theorem us {C : Cc} {X : Cx} (h : CxIs C X) (st : Stmt) : PS X st (US C st) := ⟨fun pins s σ H D I q => let ⟨_, p, q⟩ := q; (p X h).run pins s σ H D I q⟩
theorem ub {C : Cc} {X : Cx} (h : CxIs C X) (sts : List Stmt) : PSs X sts (UB C sts) := ⟨fun pins s σ H D I q => let ⟨_, p, q⟩ := q; (p X h).run pins s σ H D I q⟩

def EV (C : Cc) (e : Expr) (E : List O) (M : Mem) (o : O) (M' : Mem) : Prop := Ev (UE C e) E M o M'
def ET (C : Cc) (e : Expr) (E : List O) (M : Mem) (b : Bool) (M' : Mem) : Prop := Et (UT C e) E M b M'
def EW (C : Cc) (e : Expr) (E : List O) (M : Mem) (b : Bool) (M' : Mem) : Prop := Et (UW C e) E M b M'
def EA (C : Cc) (es : List Expr) (E : List O) (M : Mem) (os : List O) (M' : Mem) : Prop := Ea (UA C es) E M os M'
def ST (C : Cc) (st : Stmt) (E : List O) (M : Mem) (r : Out) : Prop := Do (US C st) E M r
def SB (C : Cc) (sts : List Stmt) (E : List O) (M : Mem) (r : Out) : Prop := Do (UB C sts) E M r

section
variable {C : Cc} {E : List O} {M M1 M2 M3 M' : Mem} {o o1 o2 o3 : O} {os : List O} {e a b c : Expr} {pos pos' : Pos} {r : Out} {d d1 d2 : D} {ta tb te : TE}
theorem EV.mk {t : TE} (h1 : ∀ X, CxIs C X → PE X e t) (h2 : Ev t E M o M') : EV C e E M o M' := fun I H adr σ Q s q => ⟨t, h1, h2 I H adr σ Q s q⟩
theorem ET.mk {t : TT} {b : Bool} (h1 : ∀ X, CxIs C X → PT X e t) (h2 : Et t E M b M') : ET C e E M b M' := fun I H adr σ Q s q => ⟨t, h1, h2 I H adr σ Q s q⟩
theorem EW.mk {t : TT} {b : Bool} (h1 : ∀ X, CxIs C X → PW X e t) (h2 : Et t E M b M') : EW C e E M b M' := fun I H adr σ Q s q => ⟨t, h1, h2 I H adr σ Q s q⟩
theorem EA.mk {es : List Expr} {t : TA} (h1 : ∀ X, CxIs C X → PA X es t) (h2 : Ea t E M os M') : EA C es E M os M' := fun I H adr σ Q s q => ⟨t, h1, h2 I H adr σ Q s q⟩
theorem ST.mk {st : Stmt} {t : TS} (h1 : ∀ X, CxIs C X → PS X st t) (h2 : Do t E M r) : ST C st E M r := fun I H adr σ D s q => ⟨t, h1, h2 I H adr σ D s q⟩
theorem SB.mk {sts : List Stmt} {t : TS} (h1 : ∀ X, CxIs C X → PSs X sts t) (h2 : Do t E M r) : SB C sts E M r := fun I H adr σ D s q => ⟨t, h1, h2 I H adr σ D s q⟩

/-! ### names, constants -/
theorem EV.to {o' : O} (h : EV C e E M o M') (q : o = o') : EV C e E M o' M' := q ▸ h
theorem ev_name {i : Nat} (h : E[i]? = some o) (hn : o ≠ .no) : Ev (tVar i) E M o M := fun I H adr σ Q s q => by
  have hl : i < σ.length := by
    rw [← s.len]
    exact (List.getElem?_eq_some_iff.mp h).1
  have h2 : σ[i]? = some σ[i] := List.getElem?_eq_getElem hl
  have h3 := s.slot i o _ h h2
  cases hv : σ[i] with
  | none =>
    rw [hv] at h3
    exact absurd h3 hn
  | some v =>
    rw [hv] at h3 h2
    exact ⟨v, h2, q v I H adr s Grow.refl h3⟩
theorem EV.nm (i : Nat) {x : Str} (hN : C.N[i]? = some x := by rfl) (h : E[i]? = some o := by rfl) (hn : o ≠ .no := by intro z; cases z) (hv : Vis C.sc x := by first | exact Or.inl rfl | exact Or.inr (Or.inl rfl) | exact Or.inr (Or.inr rfl))
    (hd : (x == ("__debug__" : Str)) = false := by decide) (hcd : (x == ("__classdict__" : Str)) = false := by decide) : EV C (.Name x pos) E M o M :=
  EV.mk (fun X hX => pe_var (by rw [hX.N]; exact hN) (by rw [hX.sc]; exact hv) hd hcd) (ev_name h hn)
theorem ev_c {v : V} (h : ∀ I, Rep I d v) : Ev (tC v) E M (.dat d) M := fun I H adr σ Q s q => q v I H adr s Grow.refl (h I)
theorem EV.int {i : Int} {j : Nat} : EV C (.Constant (.int i) j pos) E M (.dat (.int i)) M := EV.mk (fun _ _ => pe_int) (ev_c fun _ => .int i)
theorem EV.bl {i : Bool} {j : Nat} : EV C (.Constant (.bool i) j pos) E M (.dat (.bl i)) M := EV.mk (fun _ _ => pe_bl) (ev_c fun _ => .bl i)
theorem EV.non {j : Nat} : EV C (.Constant .none j pos) E M (.dat .non) M := EV.mk (fun _ _ => pe_non) (ev_c fun _ => .non)
theorem EV.str {x : Str} {j : Nat} : EV C (.Constant (.str x) j pos) E M (.dat (.str x)) M := EV.mk (fun _ _ => pe_str) (ev_c fun _ => .str x)
theorem EV.gint {x : Str} {i : Int} {t : Tok} (hm : C.g.mg x = some (.int i t)) (hg : C.sc.names.lookup x = some .globalImplicit := by rfl) (hd : (x == ("__debug__" : Str)) = false := by decide) : EV C (.Name x pos) E M (.dat (.int i)) M :=
  EV.mk (fun X hX => pe_glob (v := .int i) (u := .int i t) (by show X.env.scope.names.lookup x = _; rw [hX.sc]; exact hg) (by rw [hX.mg]; exact hm) ⟨t, rfl⟩ hd) (ev_c fun _ => .int i)

/-! ### operators -/
def RO (r : R2) (o1 o2 : O) (M : Mem) (o : O) (M' : Mem) : Prop :=
  ∀ (I H : Hp) (adr : List Addr) (σ : L2.St) (E : List O) (v w : V) (Q : VK), Stt I H adr σ E M → Vo I adr o1 v → Vo I adr o2 w → (∀ z I' H' adr', Stt I' H' adr' σ E M' → Grow I H adr I' H' adr' → Vo I' adr' o z → Q z H') → r v w H Q
theorem ev_op {r : R2} (ha : Ev ta E M o1 M1) (hb : Ev tb E M1 o2 M2) (hr : RO r o1 o2 M2 o M') : Ev (tOp r ta tb) E M o M' := fun I H adr σ Q s q =>
  ha I H adr σ _ s fun v I1 H1 adr1 s1 g1 v1 => hb I1 H1 adr1 σ _ s1 fun w I2 H2 adr2 s2 g2 w2 =>
    hr I2 H2 adr2 σ E v w Q s2 (v1.mono g2) w2 fun z I3 H3 adr3 s3 g3 z3 => q z I3 H3 adr3 s3 ((g1.trans g2).trans g3) z3
theorem EV.op {op : Operator} {r : R2} (ha : EV C a E M o1 M1) (hb : EV C b E M1 o2 M2) (ho : ∀ X, CxIs C X → OpR X (binaryOp op) r) (hr : RO r o1 o2 M2 o M') : EV C (.BinOp a op b pos) E M o M' :=
  EV.mk (fun X hX => pe_op (ho X hX) (ue hX a) (ue hX b)) (ev_op ha hb hr)
theorem EV.cmp {op : CmpOp} {r : R2} (ha : EV C a E M o1 M1) (hb : EV C b E M1 o2 M2) (ho : ∀ X, CxIs C X → OpR X (compareOp op) r) (hr : RO r o1 o2 M2 o M') (hm : behindInMarks op b = false) : EV C (.Compare a [op] [b] pos) E M o M' :=
  EV.mk (fun X hX => pe_cmpR (ho X hX) (ue hX a) (ue hX b) hm) (ev_op ha hb hr)
theorem et_test {b : Bool} (h : Ev te E M (.dat (.bl b)) M') : Et (tTest te) E M b M' := fun I H adr σ Q s q =>
  h I H adr σ _ s fun v I1 H1 adr1 s1 g1 v1 => by
    cases (show Rep I1 (.bl b) v from v1)
    exact ⟨b, rfl, q I1 H1 adr1 s1 g1⟩
theorem et_B {b : Bool} (h : Ev te E M (.dat (.bl b)) M') : Et (tB te) E M b M' := fun I H adr σ Q s q =>
  h I H adr σ _ s fun v I1 H1 adr1 s1 g1 v1 => by
    cases (show Rep I1 (.bl b) v from v1)
    exact ⟨b, rfl, q I1 H1 adr1 s1 g1⟩
theorem ET.cmp {op : CmpOp} {r : R2} {k : Bool} (ha : EV C a E M o1 M1) (hb : EV C b E M1 o2 M2) (ho : ∀ X, CxIs C X → OpR X (compareOp op) r) (hr : RO r o1 o2 M2 (.dat (.bl k)) M') (hm : behindInMarks op b = false) : ET C (.Compare a [op] [b] pos) E M k M' :=
  ET.mk (fun X hX => pt_cmpR (ho X hX) (ue hX a) (ue hX b) hm) (et_test (ev_op ha hb hr))
/-- a test by its value, a bool -/
theorem ET.val {k : Bool} (h : EV C e E M (.dat (.bl k)) M') (he : ∀ env whole, isTrue e env whole = (do let v ← whole; standAt e.pos; holding [v] (truthy v)) := by intro _ _; rfl) : ET C e E M k M' :=
  ET.mk (fun X hX => pt_val (ue hX e) (he X.env)) (et_B h)
theorem tru_lst {K : PySem.W.Frag} {H : Hp} {p : Addr} {xs : List V} (h : H p = some (.lst xs)) : TruV K (.ref p) H (!xs.isEmpty) := .inl ⟨xs, .inl (.inl h), rfl⟩
theorem tru_tup {K : PySem.W.Frag} {H : Hp} {p : Addr} {xs : List V} (h : H p = some (.tup xs)) : TruV K (.ref p) H (!xs.isEmpty) := .inr (.inl ⟨xs, .inl (.inl h), rfl⟩)
/-- a value's truth -/
def tru : D → Option Bool
  | .non => some false
  | .bl b => some b
  | .int i => some (i != 0)
  | .lst ds => some (!ds.isEmpty)
  | .tup ds => some (!ds.isEmpty)
  | _ => none
theorem isEmpty_reps {I : Hp} {ds : List D} {xs : List V} (r : Reps I ds xs) : ds.isEmpty = xs.isEmpty := by cases r <;> rfl
theorem tru_of {K : PySem.W.Frag} {I H : Hp} {v : V} {k : Bool} (e : Ex I H) (h : Rep I d v) (t : tru d = some k) : TruV K v H k := by
  cases h with
  | non => exact (Option.some.inj t).symm
  | bl b => exact (Option.some.inj t).symm
  | int i => exact (Option.some.inj t).symm
  | str s => cases t
  | tup h r =>
    cases t
    rw [isEmpty_reps r]
    exact tru_tup (e _ _ h)
  | lst h r =>
    cases t
    rw [isEmpty_reps r]
    exact tru_lst (e _ _ h)
  | dct h r => cases t
theorem ET.tru {k : Bool} (h : EV C e E M (.dat d) M') (t : tru d = some k) (he : ∀ env whole, isTrue e env whole = (do let v ← whole; standAt e.pos; holding [v] (truthy v)) := by intro _ _; rfl) : ET C e E M k M' :=
  ET.mk (t := fun σ H Q => UE C e σ H fun x H' => ∃ k, TruV C.g.K x H' k ∧ Q k H') (fun X hX => by
    have := pt_truth (ue hX e) (he X.env)
    rw [hX.K] at this
    exact this) fun I H adr σ Q s q => h I H adr σ _ s fun v I1 H1 adr1 s1 g1 v1 => ⟨k, tru_of s1.ex v1 t, q I1 H1 adr1 s1 g1⟩

/-! ### and, or, not -/
theorem pt_dead {X : Cx} : PT X e (fun _ _ _ => False) := ⟨fun _ _ _ _ _ _ h => h.elim⟩
theorem pw_dead {X : Cx} : PW X e (fun _ _ _ => False) := ⟨fun _ _ _ _ _ _ _ h => h.elim⟩
theorem pe_dead {X : Cx} : PE X e (fun _ _ _ => False) := ⟨fun _ _ _ _ _ _ h => h.elim⟩
theorem EW.et {k : Bool} (h : EW C e E M k M') : ET C e E M k M' := ET.mk (fun X hX => (uw hX e).pt) h
theorem EW.and1 {k : Bool} (h : ET C a E M k M') : EW C (.BoolOp .And [a] pos) E M k M' := EW.mk (fun X hX => pw_and1 (ut hX a)) h
theorem EW.or1 {k : Bool} (h : ET C a E M k M') : EW C (.BoolOp .Or [a] pos) E M k M' := EW.mk (fun X hX => pw_or1 (ut hX a)) h
theorem EW.and {k1 k2 : Bool} {rest : List Expr} (ha : ET C a E M k1 M1) (hb : k1 = true → EW C (.BoolOp .And (b :: rest) pos) E M1 k2 M2) (hm : k1 = false → M2 = M1) : EW C (.BoolOp .And (a :: b :: rest) pos) E M (k1 && k2) M2 := by
  cases k1 with
  | true =>
    refine EW.mk (fun X hX => pw_and (ut hX a) (uw hX _)) fun I H adr σ Q s q => ?_
    refine ha I H adr σ _ s fun I1 H1 adr1 s1 g1 => ?_
    show UW C _ σ H1 Q
    exact hb rfl I1 H1 adr1 σ Q s1 fun I2 H2 adr2 s2 g2 => q I2 H2 adr2 s2 (g1.trans g2)
  | false =>
    cases hm rfl
    refine EW.mk (fun X hX => pw_and (ut hX a) pw_dead) fun I H adr σ Q s q => ?_
    refine ha I H adr σ _ s fun I1 H1 adr1 s1 g1 => ?_
    show Q false H1
    exact q I1 H1 adr1 s1 g1
theorem EW.or {k1 k2 : Bool} {rest : List Expr} (ha : ET C a E M k1 M1) (hb : k1 = false → EW C (.BoolOp .Or (b :: rest) pos) E M1 k2 M2) (hm : k1 = true → M2 = M1) : EW C (.BoolOp .Or (a :: b :: rest) pos) E M (k1 || k2) M2 := by
  cases k1 with
  | false =>
    refine EW.mk (fun X hX => pw_or (ut hX a) (uw hX _)) fun I H adr σ Q s q => ?_
    refine ha I H adr σ _ s fun I1 H1 adr1 s1 g1 => ?_
    show UW C _ σ H1 Q
    exact hb rfl I1 H1 adr1 σ Q s1 fun I2 H2 adr2 s2 g2 => q I2 H2 adr2 s2 (g1.trans g2)
  | true =>
    cases hm rfl
    refine EW.mk (fun X hX => pw_or (ut hX a) pw_dead) fun I H adr σ Q s q => ?_
    refine ha I H adr σ _ s fun I1 H1 adr1 s1 g1 => ?_
    show Q true H1
    exact q I1 H1 adr1 s1 g1
theorem ET.not {k : Bool} (h : ET C a E M k M') : ET C (.UnaryOp .Not a pos) E M (!k) M' :=
  ET.mk (fun X hX => pt_not (ut hX a)) fun I H adr σ Q s q => h I H adr σ _ s fun I1 H1 adr1 s1 g1 => q I1 H1 adr1 s1 g1
/-- the same as values, where all parts are bools -/
theorem EV.and1 (h : EV C a E M o M') : EV C (.BoolOp .And [a] pos) E M o M' := EV.mk (fun X hX => pe_one (ue hX a)) h
theorem EV.or1 (h : EV C a E M o M') : EV C (.BoolOp .Or [a] pos) E M o M' := EV.mk (fun X hX => pe_one (ue hX a)) h
theorem EV.and {k1 k2 : Bool} {rest : List Expr} (ha : EV C a E M (.dat (.bl k1)) M1) (hb : k1 = true → EV C (.BoolOp .And (b :: rest) pos) E M1 (.dat (.bl k2)) M2) (hm : k1 = false → M2 = M1) : EV C (.BoolOp .And (a :: b :: rest) pos) E M (.dat (.bl (k1 && k2))) M2 := by
  cases k1 with
  | true =>
    refine EV.mk (fun X hX => pe_and (ue hX a) (ue hX _)) fun I H adr σ Q s q => ?_
    refine ha I H adr σ _ s fun v I1 H1 adr1 s1 g1 v1 => ?_
    cases (show Rep I1 (.bl true) v from v1)
    refine ⟨true, rfl, ?_⟩
    show UE C _ σ H1 Q
    exact hb rfl I1 H1 adr1 σ Q s1 fun z I2 H2 adr2 s2 g2 z2 => q z I2 H2 adr2 s2 (g1.trans g2) z2
  | false =>
    cases hm rfl
    refine EV.mk (fun X hX => pe_and (ue hX a) pe_dead) fun I H adr σ Q s q => ?_
    refine ha I H adr σ _ s fun v I1 H1 adr1 s1 g1 v1 => ?_
    cases (show Rep I1 (.bl false) v from v1)
    refine ⟨false, rfl, ?_⟩
    show Q (.bl false) H1
    exact q _ I1 H1 adr1 s1 g1 (.bl false)
theorem EV.or {k1 k2 : Bool} {rest : List Expr} (ha : EV C a E M (.dat (.bl k1)) M1) (hb : k1 = false → EV C (.BoolOp .Or (b :: rest) pos) E M1 (.dat (.bl k2)) M2) (hm : k1 = true → M2 = M1) : EV C (.BoolOp .Or (a :: b :: rest) pos) E M (.dat (.bl (k1 || k2))) M2 := by
  cases k1 with
  | false =>
    refine EV.mk (fun X hX => pe_or (ue hX a) (ue hX _)) fun I H adr σ Q s q => ?_
    refine ha I H adr σ _ s fun v I1 H1 adr1 s1 g1 v1 => ?_
    cases (show Rep I1 (.bl false) v from v1)
    refine ⟨false, rfl, ?_⟩
    show UE C _ σ H1 Q
    exact hb rfl I1 H1 adr1 σ Q s1 fun z I2 H2 adr2 s2 g2 z2 => q z I2 H2 adr2 s2 (g1.trans g2) z2
  | true =>
    cases hm rfl
    refine EV.mk (fun X hX => pe_or (ue hX a) pe_dead) fun I H adr σ Q s q => ?_
    refine ha I H adr σ _ s fun v I1 H1 adr1 s1 g1 v1 => ?_
    cases (show Rep I1 (.bl true) v from v1)
    refine ⟨true, rfl, ?_⟩
    show Q (.bl true) H1
    exact q _ I1 H1 adr1 s1 g1 (.bl true)
theorem EV.not {k : Bool} (h : EV C a E M (.dat (.bl k)) M') : EV C (.UnaryOp .Not a pos) E M (.dat (.bl (!k))) M' :=
  EV.mk (fun X hX => pe_not (ue hX a)) fun I H adr σ Q s q => h I H adr σ _ s fun v I1 H1 adr1 s1 g1 v1 => by
    cases (show Rep I1 (.bl k) v from v1)
    exact ⟨k, rfl, q _ I1 H1 adr1 s1 g1 (.bl _)⟩
theorem EV.ite {k : Bool} (hc : ET C c E M k M1) (h1 : k = true → EV C a E M1 o M') (h2 : k = false → EV C b E M1 o M') : EV C (.IfExp c a b pos) E M o M' := by
  cases k with
  | true =>
    refine EV.mk (fun X hX => pe_ifExp (ut hX c) (ue hX a) pe_dead) fun I H adr σ Q s q => ?_
    refine hc I H adr σ _ s fun I1 H1 adr1 s1 g1 => ?_
    show UE C a σ H1 Q
    exact h1 rfl I1 H1 adr1 σ Q s1 fun z I2 H2 adr2 s2 g2 z2 => q z I2 H2 adr2 s2 (g1.trans g2) z2
  | false =>
    refine EV.mk (fun X hX => pe_ifExp (ut hX c) pe_dead (ue hX b)) fun I H adr σ Q s q => ?_
    refine hc I H adr σ _ s fun I1 H1 adr1 s1 g1 => ?_
    show UE C b σ H1 Q
    exact h2 rfl I1 H1 adr1 σ Q s1 fun z I2 H2 adr2 s2 g2 z2 => q z I2 H2 adr2 s2 (g1.trans g2) z2

/-! ### argument lists, tuples, lists -/
theorem EA.nil : EA C [] E M [] M := EA.mk (fun _ _ => pa_nil) fun I H adr σ Q s q => q [] I H adr s Grow.refl .nil
theorem EA.cons {es : List Expr} (h : EV C a E M o M1) (hr : EA C es E M1 os M') (hs : ∀ env, starEach (a :: es) env = (false, eval a env) :: starEach es env := by intro _; rfl) : EA C (a :: es) E M (o :: os) M' :=
  EA.mk (fun X hX => pa_cons (ue hX a) (ua hX es) (hs X.env)) fun I H adr σ Q s q => h I H adr σ _ s fun v I1 H1 adr1 s1 g1 v1 =>
    hr I1 H1 adr1 σ _ s1 fun vs I2 H2 adr2 s2 g2 v2 => q (v :: vs) I2 H2 adr2 s2 (g1.trans g2) (.cons (v1.mono g2) v2)
theorem sz_of {n : Nat} (h : n ≤ 100000) : n ≤ sizeLine := Nat.le_trans h (by decide)
theorem sz_lt {n : Nat} (h : n < 100000) : n < sizeLine := Nat.lt_of_lt_of_le h (by decide)
theorem EV.tup {es : List Expr} {ds : List D} {k : Nat} (h : EA C es E M (ds.map .dat) M') (hz : ds.length ≤ 100000) : EV C (.Tuple es k pos) E M (.dat (.tup ds)) M' :=
  EV.mk (fun X hX => pe_tup (ua hX es)) fun I H adr σ Q s q => h I H adr σ _ s fun vs I1 H1 adr1 s1 g1 v1 =>
    ⟨by rw [← v1.to.length]; exact sz_of hz, fun p hp => let ⟨s2, g2, r2⟩ := s1.tup hp v1.to; q _ _ _ _ s2 (g1.trans g2) r2⟩
/-- a list display that never changes -/
theorem EV.lst {es : List Expr} {ds : List D} (h : EA C es E M (ds.map .dat) M') (hz : ds.length ≤ 100000) : EV C (.List es pos) E M (.dat (.lst ds)) M' :=
  EV.mk (fun X hX => pe_lst (ua hX es)) fun I H adr σ Q s q => h I H adr σ _ s fun vs I1 H1 adr1 s1 g1 v1 =>
    ⟨by rw [← v1.to.length]; exact sz_of hz, fun p hp => let ⟨s2, g2, r2⟩ := s1.lst hp v1.to; q _ _ _ _ s2 (g1.trans g2) r2⟩
/-- .. that is a cell -/
theorem EV.cel {es : List Expr} (h : EA C es E M os M') (hz : os.length ≤ 100000) : EV C (.List es pos) E M (.adr M'.length) (M' ++ [some os]) :=
  EV.mk (fun X hX => pe_lst (ua hX es)) fun I H adr σ Q s q => h I H adr σ _ s fun vs I1 H1 adr1 s1 g1 v1 =>
    ⟨by rw [← v1.length]; exact sz_of hz, fun p hp => let ⟨s2, g2, r2⟩ := s1.cel hp v1; q _ _ _ _ s2 (g1.trans g2) ⟨p, r2, rfl⟩⟩

/-! ### statements -/
theorem SB.nil : SB C [] E M (.nx E M) := SB.mk (fun _ _ => pss_nil) fun I H adr σ D s q => q I H adr σ s Grow.refl
theorem SB.cons {st : Stmt} {sts : List Stmt} {E1 : List O} (h : ST C st E M (.nx E1 M1)) (hr : SB C sts E1 M1 r) : SB C (st :: sts) E M r :=
  SB.mk (fun X hX => pss_cons (us hX st) (ub hX sts)) fun I H adr σ D s q =>
    h I H adr σ { D with nx := UB C sts D } s fun I1 H1 adr1 σ1 s1 g1 => hr I1 H1 adr1 σ1 D s1 (q.mono g1)
theorem pss_dead {X : Cx} {sts : List Stmt} : PSs X sts (fun _ _ _ => False) := ⟨fun _ _ _ _ _ _ h => h.elim⟩
theorem ps_dead {X : Cx} {st : Stmt} : PS X st (fun _ _ _ => False) := ⟨fun _ _ _ _ _ _ h => h.elim⟩
/-- a statement behind which nothing is done -/
def Out.ends : Out → Bool
  | .nx _ _ => false
  | _ => true
theorem SB.stop {st : Stmt} {sts : List Stmt} (h : ST C st E M r) (he : r.ends = true := by rfl) : SB C (st :: sts) E M r :=
  SB.mk (fun X hX => pss_cons (us hX st) pss_dead) fun I H adr σ D s q => h I H adr σ { D with nx := fun _ _ => False } s (by
    cases r with
    | nx _ _ => cases he
    | rt _ _ => exact q
    | bk _ _ => exact q
    | ct _ _ => exact q)
theorem SB.one {st : Stmt} (h : ST C st E M r) : SB C [st] E M r := SB.mk (fun X hX => pss_one (us hX st)) h
theorem ST.pass : ST C (.Pass pos) E M (.nx E M) := ST.mk (fun _ _ => ps_pass) fun I H adr σ D s q => q I H adr σ s Grow.refl
theorem ST.brk : ST C (.Break pos) E M (.bk E M) := ST.mk (fun _ _ => ps_break) fun I H adr σ D s q => q I H adr σ s Grow.refl
theorem ST.cont : ST C (.Continue pos) E M (.ct E M) := ST.mk (fun _ _ => ps_continue) fun I H adr σ D s q => q I H adr σ s Grow.refl
theorem ST.ret (h : EV C e E M o M') : ST C (.Return (some e) pos) E M (.rt o M') :=
  ST.mk (fun X hX => ps_ret (ue hX e)) fun I H adr σ D s q => h I H adr σ _ s fun v I1 H1 adr1 s1 g1 v1 => q v I1 H1 adr1 ⟨s1.ex, s1.sto, rfl, fun i o ov h _ => by simp at h⟩ g1 v1
theorem ST.retN : ST C (.Return none pos) E M (.rt (.dat .non) M) :=
  ST.mk (fun X hX => ps_retN) fun I H adr σ D s q => q .non I H adr ⟨s.ex, s.sto, rfl, fun i o ov h _ => by simp at h⟩ Grow.refl .non
theorem ST.ite {k : Bool} {ys ns : List Stmt} (hc : ET C c E M k M1) (h1 : k = true → SB C ys E M1 r) (h2 : k = false → SB C ns E M1 r) : ST C (.If c ys ns pos) E M r := by
  cases k with
  | true =>
    refine ST.mk (fun X hX => ps_if (ut hX c) (ub hX ys) pss_dead) fun I H adr σ D s q => ?_
    refine hc I H adr σ _ s fun I1 H1 adr1 s1 g1 => ?_
    show UB C ys D σ H1
    exact h1 rfl I1 H1 adr1 σ D s1 (q.mono g1)
  | false =>
    refine ST.mk (fun X hX => ps_if (ut hX c) pss_dead (ub hX ns)) fun I H adr σ D s q => ?_
    refine hc I H adr σ _ s fun I1 H1 adr1 s1 g1 => ?_
    show UB C ns D σ H1
    exact h2 rfl I1 H1 adr1 σ D s1 (q.mono g1)
theorem ST.yes {ys ns : List Stmt} (hc : ET C c E M true M1) (h1 : SB C ys E M1 r) : ST C (.If c ys ns pos) E M r := ST.ite hc (fun _ => h1) (fun z => nomatch z)
theorem ST.no {ys ns : List Stmt} (hc : ET C c E M false M1) (h1 : SB C ns E M1 r) : ST C (.If c ys ns pos) E M r := ST.ite hc (fun z => nomatch z) (fun _ => h1)
theorem ST.exp (h : EV C e E M o M') (hs : ∀ env, swapsWith e none pos.line env = pure false := by intro _; rfl) : ST C (.Expr e pos) E M (.nx E M') :=
  ST.mk (fun X hX => ps_expr (ue hX e) (hs X.env)) fun I H adr σ D s q => h I H adr σ _ s fun v I1 H1 adr1 s1 g1 v1 => q I1 H1 adr1 σ s1 g1
theorem ST.set (i : Nat) {x : Str} {p' : Pos} (h : EV C e E M o M') (nd : C.N.Nodup) (hi : C.N[i]? = some x := by rfl) (hx : Loc C.sc x := by first | exact Or.inl rfl | exact Or.inr rfl)
    (hs : ∀ env, swapsWith e (some (.Name x p')) pos.line env = pure false := by intro _; rfl) (hf : C.fn x = true ∨ C.sc.names.lookup x = some .local := by first | exact .inl rfl | exact .inr rfl) : ST C (.Assign [.Name x p'] e pos) E M (.nx (E.set i o) M') :=
  ST.mk (fun X hX => ps_set (by rw [hX.N]; exact nd) (by rw [hX.N]; exact hi) (by rw [hX.sc]; exact hx) (ue hX e) (hs X.env) (hf.elim (fun z => .inl (hX.fn x z)) (fun z => .inr (by rw [hX.sc]; exact z))))
    fun I H adr σ D s q => h I H adr σ _ s fun v I1 H1 adr1 s1 g1 v1 => q I1 H1 adr1 _ (s1.set v1) g1

end
end Ab
/-! Ab: defs and their calls. -/
namespace Ab
open PySem PySem.Spec PyProof.Rows L2
variable [TabCtx]

abbrev Rel := List O → Mem → O → Mem → Prop
def spR (R : Rel) : Sp := fun vs H Q _ => ∃ (I : Hp) (adr : List Addr) (os : List O) (M : Mem) (o : O) (M' : Mem), R os M o M' ∧ Ex I H ∧ Sto I H adr M ∧ Vs I adr os vs ∧
  ∀ v I' H' adr', Ex I' H' → Sto I' H' adr' M' → Grow I H adr I' H' adr' → Vo I' adr' o v → Q v H'
/-- the def named x keeps R -/
def FN (g : Pg) (x : Str) (k : Nat) (R : Rel) : Prop := ∃ (f : Addr) (fd : FuncData) (ps : List Str), FnOk g.P g.w g.K g.mg g.base CX0 k f fd ps (spR R) ∧ g.mg x = some (.ref f) ∧ PySem.W.keepIn g.K (.ref f) = true ∧ Binds g.K fd ps []
theorem FN.mono {g : Pg} {x : Str} {j k : Nat} {R : Rel} (F : FN g x j R) (h : j ≤ k) : FN g x k R := by
  obtain ⟨f, fd, ps, a, b⟩ := F
  exact ⟨f, fd, ps, a.mono h, b⟩
theorem FN.imp {g : Pg} {x : Str} {k : Nat} {R R' : Rel} (F : FN g x k R) (h : ∀ os M o M', R' os M o M' → R os M o M') : FN g x k R' := by
  obtain ⟨f, fd, ps, a, b⟩ := F
  refine ⟨f, fd, ps, a.imp fun vs H Q E z => ?_, b⟩
  obtain ⟨I, adr, os, M, o, M', r, q⟩ := z
  exact ⟨I, adr, os, M, o, M', h _ _ _ _ r, q⟩
def W0 : WX := fun _ _ _ _ => False
theorem takes0 {X : Cx} : L2.Takes X W0 := fun _ _ x => by
  obtain ⟨_, _, _, _, _, _, _, _, _, _, _, _, _, _, _, _, z⟩ := x
  exact z.elim
abbrev mkC (g : Pg) (N : List Str) (st : Stmt) (k : Nat) : Cc := ⟨g, N, defScope st, fun _ => true, k, W0, none⟩
def pad (N : List Str) (os : List O) : List O := os ++ List.replicate (N.length - os.length) .no
/-- what a def's text is, where it stands -/
structure TxtF (g : Pg) (x : Str) (st : Stmt) : Prop where
  fn : ∃ (f : Addr) (fd : FuncData), Fun g.K x x st f fd ∧ g.mg x = some (.ref f)
theorem FN.mk {g : Pg} {x : Str} {st : Stmt} {N ps : List Str} {k : Nat} {R : Rel} (T : TxtF g x st) (S : FnScope N ps (defScope st))
    (hb : ∀ (kV doc pm : Value) (an : Option Addr) (cdv ct : Value) (us : List Value), us.length = ps.length → bindArgs (PySem.W.fnOf x x (defArgs st) (defBody st) (defScope st) .none kV doc pm an cdv ct) ⟨us, []⟩ = pure (ps.zip us))
    (hl : ∀ os M o M', R os M o M' → os.length = ps.length) (body : ∀ os M o M', R os M o M' → SB (mkC g N st k) (defBody st) (pad N os) M (.rt o M')) : FN g x (k + 1) R := by
  obtain ⟨f, fd, F, hm⟩ := T.fn
  refine ⟨f, fd, ps, F.ok (N := N) S (fun vs H Q E h => ?_) (fun cdv A outer s H vs Q E hr h => ?_), hm, F.kp, F.binds hb⟩
  · obtain ⟨I, adr, os, M, o, M', r, _, _, v, _⟩ := h
    rw [← v.length]
    exact hl _ _ _ _ r
  · obtain ⟨I, adr, os, M, o, M', r, ex, sto, v, q⟩ := h
    refine ⟨UB (mkC g N st k) (defBody st), ub ⟨rfl, rfl, rfl, rfl, rfl, rfl, rfl, rfl, hr, PassesOwn.never, takes0, fun _ _ => rfl, fun _ _ z => (by cases z), ⟨_, _, rfl, S.gen, S.co, rfl, rfl⟩⟩ _, ?_⟩
    refine body os M o M' r I H adr (L2.start N vs) _ ⟨ex, sto, ?_, fun i p ov h1 h2 => ?_⟩ fun w I' H' adr' s' g' v' => q w I' H' adr' s'.ex s'.sto g' v'
    · unfold pad L2.start
      rw [List.length_append, List.length_append, List.length_map, List.length_replicate, List.length_replicate, v.length]
    · unfold pad at h1
      unfold L2.start at h2
      by_cases hi : i < os.length
      · rw [List.getElem?_append_left hi] at h1
        obtain ⟨w, e1, e2⟩ := v.get h1
        rw [List.getElem?_append_left (by rw [List.length_map, ← v.length]; exact hi), List.getElem?_map, e1] at h2
        cases h2
        exact e2
      · rw [List.getElem?_append_right (Nat.le_of_not_lt hi)] at h1
        have hp : p = .no := List.eq_of_mem_replicate (List.mem_of_getElem? h1)
        subst hp
        cases ov with
        | none => rfl
        | some w => exact True.intro

/-! ### calls -/
def O.ren (ρ : Nat → Nat) : O → O
  | .no => .no
  | .dat d => .dat d
  | .adr k => .adr (ρ k)
  | .scr a u => .scr a u
  | .obj C fs => .obj C (fs.map fun f => (f.1, ρ f.2))
theorem Vo.unren {I : Hp} {adr adr0 : List Addr} {ρ : Nat → Nat} (h : ∀ (k : Nat) (a : Addr), adr[ρ k]? = some a → adr0[k]? = some a) : ∀ {o : O} {v : V}, Vo I adr (o.ren ρ) v → Vo I adr0 o v
  | .no, _, _ => True.intro
  | .dat _, _, q => q
  | .adr _, _, q => by
    obtain ⟨a, h1, h2⟩ := q
    exact ⟨a, h _ a h1, h2⟩
  | .scr _ _, _, q => q
  | .obj _ _, _, q => by
    obtain ⟨p, dx, gs, h1, h2, h3⟩ := q
    exact ⟨p, dx, gs, h1, h2, prMap (prUn h3) fun f g' q => ⟨q.1, let ⟨a, e1, e2⟩ := q.2; ⟨a, h _ a e1, e2⟩⟩⟩
theorem Vo.doren {I : Hp} {adr adr0 : List Addr} {ρ : Nat → Nat} (h : ∀ (k : Nat) (a : Addr), adr0[k]? = some a → adr[ρ k]? = some a) : ∀ {o : O} {v : V}, Vo I adr0 o v → Vo I adr (o.ren ρ) v
  | .no, _, _ => True.intro
  | .dat _, _, q => q
  | .adr _, _, q => by
    obtain ⟨a, h1, h2⟩ := q
    exact ⟨a, h _ a h1, h2⟩
  | .scr _ _, _, q => q
  | .obj _ _, _, q => by
    obtain ⟨p, dx, gs, h1, h2, h3⟩ := q
    exact ⟨p, dx, gs, h1, h2, prDo (prMap h3 fun f g' q => ⟨q.1, let ⟨a, e1, e2⟩ := q.2; ⟨a, h _ a e1, e2⟩⟩)⟩
theorem Vs.unren {I : Hp} {adr adr0 : List Addr} {ρ : Nat → Nat} (h : ∀ (k : Nat) (a : Addr), adr[ρ k]? = some a → adr0[k]? = some a) : ∀ {os : List O} {vs : List V}, Vs I adr (os.map (·.ren ρ)) vs → Vs I adr0 os vs
  | [], _, .nil => .nil
  | _ :: _, _, .cons q r => .cons (q.unren h) (Vs.unren h r)
theorem Vs.doren {I : Hp} {adr adr0 : List Addr} {ρ : Nat → Nat} (h : ∀ (k : Nat) (a : Addr), adr0[k]? = some a → adr[ρ k]? = some a) : ∀ {os : List O} {vs : List V}, Vs I adr0 os vs → Vs I adr (os.map (·.ren ρ)) vs
  | _, _, .nil => .nil
  | _, _, .cons q r => .cons (q.doren h) (Vs.doren h r)

/-- where the callee's cells lie: the lent ones at ι, new ones behind the caller's -/
def rho (ι : List Nat) (n : Nat) (k : Nat) : Nat := match ι[k]? with
  | some j => j
  | none => n + (k - ι.length)
/-- the caller's cells behind a call -/
structure Mix (ι : List Nat) (M1 M0 M0' M2 : Mem) : Prop where
  low : ι.length = M0.length
  nd : ι.Nodup
  len : M2.length = M1.length + (M0'.length - ι.length)
  lent : ∀ (i k : Nat), ι[i]? = some k → M1[k]? = (M0[i]?).map fun c => c.map fun os => os.map (·.ren (rho ι M1.length))
  back : ∀ (k : Nat) (os : List O), M2[k]? = some (some os) → (k ∉ ι ∧ M1[k]? = some (some os)) ∨ ∃ (i : Nat) (ps : List O), rho ι M1.length i = k ∧ (i < ι.length ∨ ι.length ≤ i) ∧ M0'[i]? = some (some ps) ∧ os = ps.map (·.ren (rho ι M1.length))

theorem call_mix {I1 H1 : Hp} {adr1 : List Addr} {σ : L2.St} {E : List O} {M1 M2 M0 M0' : Mem} {ι : List Nat} (s1 : Stt I1 H1 adr1 σ E M1) (mx : Mix ι M1 M0 M0' M2) :
    ∃ adr0 : List Addr, Sto I1 H1 adr0 M0 ∧ (∀ (os : List O) (vs : List V), Vs I1 adr1 (os.map (·.ren (rho ι M1.length))) vs → Vs I1 adr0 os vs) ∧
      ∀ (I2 H2 : Hp) (adr0' : List Addr), Ex I2 H2 → Sto I2 H2 adr0' M0' → Grow I1 H1 adr0 I2 H2 adr0' → ∃ adr2, Stt I2 H2 adr2 σ E M2 ∧ Grow I1 H1 adr1 I2 H2 adr2 ∧ ∀ (o : O) (v : V), Vo I2 adr0' o v → Vo I2 adr2 (o.ren (rho ι M1.length)) v := by
  have hin : ∀ (i k : Nat), ι[i]? = some k → k < M1.length := fun i k h => by
    have h2 := mx.lent i k h
    have hi : i < M0.length := by
      rw [← mx.low]
      exact (List.getElem?_eq_some_iff.mp h).1
    rw [List.getElem?_eq_getElem hi] at h2
    exact (List.getElem?_eq_some_iff.mp h2).1
  have hlen1 := s1.sto.len
  -- the callee's addresses
  let adr0 : List Addr := ι.map fun k => adr1.getD k 0
  have a0len : adr0.length = ι.length := List.length_map _
  have a0 : ∀ (i : Nat) (a : Addr), adr0[i]? = some a → ∃ k, ι[i]? = some k ∧ adr1[k]? = some a := fun i a h => by
    rw [List.getElem?_map] at h
    cases hk : ι[i]? with
    | none => rw [hk] at h; cases h
    | some k =>
      rw [hk] at h
      have hlt : k < adr1.length := by rw [hlen1]; exact hin i k hk
      refine ⟨k, rfl, ?_⟩
      rw [List.getElem?_eq_getElem hlt]
      have : adr1.getD k 0 = a := Option.some.inj h
      rw [List.getD_eq_getElem?_getD, List.getElem?_eq_getElem hlt] at this
      exact congrArg some this
  have a0' : ∀ (i k : Nat) (a : Addr), ι[i]? = some k → adr1[k]? = some a → adr0[i]? = some a := fun i k a h1 h2 => by
    rw [List.getElem?_map, h1]
    show some (adr1.getD k 0) = some a
    rw [List.getD_eq_getElem?_getD, h2]
    rfl
  have un0 : ∀ (k : Nat) (a : Addr), adr1[rho ι M1.length k]? = some a → adr0[k]? = some a := fun k a h => by
    unfold rho at h
    cases hk : ι[k]? with
    | some j =>
      rw [hk] at h
      exact a0' k j a hk h
    | none =>
      rw [hk] at h
      have := (List.getElem?_eq_some_iff.mp h).1
      simp only at this
      omega
  have sto0 : Sto I1 H1 adr0 M0 := by
    refine ⟨by rw [a0len]; exact mx.low, ?_, fun i a ps h1 h2 => ?_, fun i a h => ?_, s1.sto.amb⟩
    · refine List.pairwise_map.mpr (List.Pairwise.imp_of_mem (fun {a b} ha hb hab e => ?_) mx.nd)
      obtain ⟨i, hi⟩ := List.getElem?_of_mem ha
      obtain ⟨j, hj⟩ := List.getElem?_of_mem hb
      have l1 : a < adr1.length := by rw [hlen1]; exact hin i a hi
      have l2 : b < adr1.length := by rw [hlen1]; exact hin j b hj
      have e1 : adr1[a]? = adr1[b]? := by
        rw [List.getD_eq_getElem?_getD, List.getD_eq_getElem?_getD, List.getElem?_eq_getElem l1, List.getElem?_eq_getElem l2] at e
        rw [List.getElem?_eq_getElem l1, List.getElem?_eq_getElem l2]
        exact congrArg some e
      exact hab ((List.getElem?_inj l1 s1.sto.nd).mp e1)
    · obtain ⟨k, hk, ha1⟩ := a0 i a h1
      have hm := mx.lent i k hk
      rw [h2] at hm
      obtain ⟨c1, xs, c2, c3⟩ := s1.sto.cell k a _ ha1 hm
      exact ⟨c1, xs, c2, c3.unren un0⟩
    · obtain ⟨k, hk, ha1⟩ := a0 i a h
      exact s1.sto.dom k a ha1
  refine ⟨adr0, sto0, fun os vs v => v.unren un0, fun I2 H2 adr0' ex2 sto2 g2 => ?_⟩
  obtain ⟨nw, rfl, fr⟩ := g2.new
  have nwlen : nw.length = M0'.length - ι.length := by
    have := sto2.len
    rw [List.length_append, a0len] at this
    omega
  have m0len : ι.length ≤ M0'.length := by
    have := sto2.len
    rw [List.length_append, a0len] at this
    omega
  have do2 : ∀ (k : Nat) (a : Addr), (adr0 ++ nw)[k]? = some a → (adr1 ++ nw)[rho ι M1.length k]? = some a := fun k a h => by
    unfold rho
    by_cases hk : k < adr0.length
    · rw [List.getElem?_append_left hk] at h
      obtain ⟨j, p1, p2⟩ := a0 k a h
      rw [p1]
      show (adr1 ++ nw)[j]? = some a
      rw [List.getElem?_append_left (List.getElem?_eq_some_iff.mp p2).1]
      exact p2
    · rw [List.getElem?_append_right (Nat.le_of_not_lt hk)] at h
      rw [show ι[k]? = none from List.getElem?_eq_none (by rw [← a0len]; exact Nat.le_of_not_lt hk)]
      show (adr1 ++ nw)[M1.length + (k - ι.length)]? = some a
      rw [List.getElem?_append_right (by omega), ← a0len, hlen1]
      rw [show M1.length + (k - adr0.length) - M1.length = k - adr0.length by omega]
      exact h
  have nin0 : ∀ p, p ∉ adr1 → p ∉ adr0 := fun p h z => by
    obtain ⟨i, hi⟩ := List.getElem?_of_mem z
    obtain ⟨k, _, hk⟩ := a0 i p hi
    exact h (List.mem_of_getElem? hk)
  have g3 : Grow I1 H1 adr1 I2 H2 (adr1 ++ nw) := ⟨g2.ex, ⟨nw, rfl, fr⟩, fun p u h n hp => g2.keep p u h n (nin0 p hp), g2.dom, fun p u h n h2 hp => g2.out p u h n h2 (nin0 p hp), g2.code⟩
  have notin : ∀ (k : Nat) (a : Addr), k ∉ ι → adr1[k]? = some a → a ∉ adr0 := fun k a hk h z => by
    obtain ⟨i, hi⟩ := List.getElem?_of_mem z
    obtain ⟨j, h1, h2⟩ := a0 i a hi
    have : j = k := (List.getElem?_inj (List.getElem?_eq_some_iff.mp h2).1 s1.sto.nd).mp (h2.trans h.symm)
    subst this
    exact hk (List.mem_of_getElem? h1)
  have sto3 : Sto I2 H2 (adr1 ++ nw) M2 := by
    refine ⟨by rw [List.length_append, mx.len, hlen1, nwlen], ?_, fun k a ps h1 h2 => ?_, fun k a h => ?_, sto2.amb⟩
    · rw [List.nodup_append]
      refine ⟨s1.sto.nd, (List.nodup_append.mp sto2.nd).2.1, fun a ha b hb e => ?_⟩
      subst e
      obtain ⟨k, hk⟩ := List.getElem?_of_mem ha
      obtain ⟨u, hu, n⟩ := s1.sto.dom k a hk
      exact fr a hb u hu n
    · rcases mx.back k ps h2 with ⟨hk, hm⟩ | ⟨i, ps', hi, _, hm, rfl⟩
      · have hlt : k < adr1.length := by
          rw [hlen1]
          exact (List.getElem?_eq_some_iff.mp hm).1
        rw [List.getElem?_append_left hlt] at h1
        obtain ⟨c1, xs, c2, c3⟩ := s1.sto.cell k a ps h1 hm
        have na := notin k a hk h1
        exact ⟨g2.out a _ c2 NT.lst c1 na, xs, g2.keep a _ c2 NT.lst na, (c3.ext g2.ex).more⟩
      · have hi2 : i < (adr0 ++ nw).length := by
          rw [sto2.len]
          exact (List.getElem?_eq_some_iff.mp hm).1
        have e1 : (adr0 ++ nw)[i]? = some (adr0 ++ nw)[i] := List.getElem?_eq_getElem hi2
        have e2 := do2 i _ e1
        rw [hi, h1] at e2
        have e3 : a = (adr0 ++ nw)[i] := Option.some.inj e2
        obtain ⟨c1, xs, c2, c3⟩ := sto2.cell i _ ps' e1 hm
        exact ⟨by rw [e3]; exact c1, xs, by rw [e3]; exact c2, c3.doren do2⟩
    · by_cases hk : k < adr1.length
      · rw [List.getElem?_append_left hk] at h
        obtain ⟨u, hu, n⟩ := s1.sto.dom k a h
        exact g2.dom a u hu n
      · rw [List.getElem?_append_right (Nat.le_of_not_lt hk)] at h
        refine sto2.dom (ι.length + (k - adr1.length)) a ?_
        rw [List.getElem?_append_right (by rw [a0len]; omega), a0len]
        rw [show ι.length + (k - adr1.length) - ι.length = k - adr1.length by omega]
        exact h
  exact ⟨adr1 ++ nw, s1.mono g3 ex2 sto3, g3, fun o v h => h.doren do2⟩
theorem ev_call {R : Rel} {E : List O} {M M1 M2 M0 M0' : Mem} {os os0 : List O} {o0 : O} {ta : TA} {E' : XK} {ι : List Nat} (ha : Ea ta E M os M1) (hR : R os0 M0 o0 M0') (ho : os = os0.map (·.ren (rho ι M1.length))) (mx : Mix ι M1 M0 M0' M2) :
    Ev (tCall (spR R) [] E' ta) E M (o0.ren (rho ι M1.length)) M2 := fun I H adr σ Q s q => ha I H adr σ _ s fun vs I1 H1 adr1 s1 g1 v1 => by
  subst ho
  obtain ⟨adr0, sto0, vs0, back⟩ := call_mix s1 mx
  show spR R (vs ++ []) H1 Q E'
  rw [List.append_nil]
  refine ⟨I1, adr0, os0, M0, o0, M0', hR, s1.ex, sto0, vs0 _ _ v1, fun z I2 H2 adr0' ex2 sto2 g2 v2 => ?_⟩
  obtain ⟨adr2, s2, g3, dr⟩ := back I2 H2 adr0' ex2 sto2 g2
  exact q z I2 H2 adr2 s2 (g1.trans g3) (dr _ _ v2)
end Ab
/-! Ab: operators, subscripts, built-ins. -/
namespace Ab
open PySem PySem.Spec PyProof.Rows L2
variable [TabCtx]

/-- which built-in names the program's top leaves alone -/
def Bt (g : Pg) (x : Str) : Prop := g.mg x = none

def BS (C : Cc) (op : Operator) (o1 o2 : O) (M : Mem) (o : O) (M' : Mem) : Prop := ∃ r, (∀ X, CxIs C X → OpR X (binaryOp op) r) ∧ RO r o1 o2 M o M'
def CS (C : Cc) (op : CmpOp) (o1 o2 : O) (M : Mem) (o : O) (M' : Mem) : Prop := ∃ r, (∀ X, CxIs C X → OpR X (compareOp op) r) ∧ RO r o1 o2 M o M'
section
variable {C : Cc} {E : List O} {M M1 M2 M3 M' : Mem} {o o1 o2 o3 : O} {os : List O} {e a b c : Expr} {pos pos' p : Pos} {d d1 d2 : D} {i j : Int} {op : Operator} {cop cop' : CmpOp} {k k' : Bool}
theorem EV.bin (ha : EV C a E M o1 M1) (hb : EV C b E M1 o2 M2) (h : BS C op o1 o2 M2 o M') : EV C (.BinOp a op b pos) E M o M' := let ⟨_, h1, h2⟩ := h; EV.op ha hb h1 h2
theorem EV.cm (ha : EV C a E M o1 M1) (hb : EV C b E M1 o2 M2) (h : CS C cop o1 o2 M2 o M') (hm : behindInMarks cop b = false := by first | exact nomark _ | with_unfolding_all rfl) : EV C (.Compare a [cop] [b] pos) E M o M' := let ⟨_, h1, h2⟩ := h; EV.cmp ha hb h1 h2 hm
theorem ET.cm (ha : EV C a E M o1 M1) (hb : EV C b E M1 o2 M2) (h : CS C cop o1 o2 M2 (.dat (.bl k)) M') (hm : behindInMarks cop b = false := by first | exact nomark _ | with_unfolding_all rfl) : ET C (.Compare a [cop] [b] pos) E M k M' := let ⟨_, h1, h2⟩ := h; ET.cmp ha hb h1 h2 hm
/-- a op b op' c -/
theorem EV.chain {M4 : Mem} (ha : EV C a E M o1 M1) (hb : EV C b E M1 o2 M2) (h : CS C cop o1 o2 M2 (.dat (.bl k)) M2) (hc : k = true → EV C c E M2 o3 M3) (h' : k = true → CS C cop' o2 o3 M3 (.dat (.bl k')) M3) (h0 : k = false → M3 = M2)
    (hm : lastMarks [cop, cop'] [b, c] = false := by with_unfolding_all rfl) : EV C (.Compare a [cop, cop'] [b, c] pos) E M (.dat (.bl (k && k'))) M3 := by
  obtain ⟨r, r1, r2⟩ := h
  cases k with
  | true =>
    obtain ⟨r', r1', r2'⟩ := h' rfl
    refine EV.mk (fun X hX => pe_chain (r1 X hX) (r1' X hX) (ue hX a) (ue hX b) (ue hX c) hm) fun I H adr σ Q s q => ?_
    refine ha I H adr σ _ s fun v I1 H1 adr1 s1 g1 v1 => hb I1 H1 adr1 σ _ s1 fun w I2 H2 adr2 s2 g2 w2 => ?_
    refine r2 I2 H2 adr2 σ E v w _ s2 (v1.mono g2) w2 fun z I3 H3 adr3 s3 g3 z3 => ?_
    cases (show Rep I3 (.bl true) z from z3)
    refine ⟨true, rfl, ?_⟩
    show UE C c σ H3 _
    exact hc rfl I3 H3 adr3 σ _ s3 fun w' I4 H4 adr4 s4 g4 w4 => r2' I4 H4 adr4 σ E w w' Q s4 ((w2.mono g3).mono g4) w4 fun y I5 H5 adr5 s5 g5 y5 => q y I5 H5 adr5 s5 ((((g1.trans g2).trans g3).trans g4).trans g5) y5
  | false =>
    have e := h0 rfl
    subst e
    refine EV.mk (fun X hX => pe_chain (r' := fun _ _ _ _ => False) (r1 X hX) (fun _ _ _ _ _ _ _ _ _ _ _ _ h => h.elim) (ue hX a) (ue hX b) (ue hX c) hm) fun I H adr σ Q s q => ?_
    refine ha I H adr σ _ s fun v I1 H1 adr1 s1 g1 v1 => hb I1 H1 adr1 σ _ s1 fun w I2 H2 adr2 s2 g2 w2 => ?_
    refine r2 I2 H2 adr2 σ E v w _ s2 (v1.mono g2) w2 fun z I3 H3 adr3 s3 g3 z3 => ?_
    cases (show Rep I3 (.bl false) z from z3)
    refine ⟨false, rfl, ?_⟩
    show Q (.bl false) H3
    exact q _ I3 H3 adr3 s3 ((g1.trans g2).trans g3) (.bl false)
theorem ET.chain (ha : EV C a E M o1 M1) (hb : EV C b E M1 o2 M2) (h : CS C cop o1 o2 M2 (.dat (.bl k)) M2) (hc : k = true → EV C c E M2 o3 M3) (h' : k = true → CS C cop' o2 o3 M3 (.dat (.bl k')) M3) (h0 : k = false → M3 = M2)
    (hm : lastMarks [cop, cop'] [b, c] = false := by with_unfolding_all rfl) : ET C (.Compare a [cop, cop'] [b, c] pos) E M (k && k') M3 := by
  obtain ⟨r, r1, r2⟩ := h
  cases k with
  | true =>
    obtain ⟨r', r1', r2'⟩ := h' rfl
    refine ET.mk (fun X hX => pt_chain (r1 X hX) (r1' X hX) (ue hX a) (ue hX b) (ue hX c) hm) fun I H adr σ Q s q => ?_
    refine ha I H adr σ _ s fun v I1 H1 adr1 s1 g1 v1 => hb I1 H1 adr1 σ _ s1 fun w I2 H2 adr2 s2 g2 w2 => ?_
    refine r2 I2 H2 adr2 σ E v w _ s2 (v1.mono g2) w2 fun z I3 H3 adr3 s3 g3 z3 => ?_
    cases (show Rep I3 (.bl true) z from z3)
    refine ⟨true, rfl, ?_⟩
    show UE C c σ H3 _
    exact hc rfl I3 H3 adr3 σ _ s3 fun w' I4 H4 adr4 s4 g4 w4 => r2' I4 H4 adr4 σ E w w' _ s4 ((w2.mono g3).mono g4) w4 fun y I5 H5 adr5 s5 g5 y5 => by
      cases (show Rep I5 (.bl k') y from y5)
      exact ⟨k', rfl, q I5 H5 adr5 s5 ((((g1.trans g2).trans g3).trans g4).trans g5)⟩
  | false =>
    have e := h0 rfl
    subst e
    refine ET.mk (fun X hX => pt_chain (r' := fun _ _ _ _ => False) (r1 X hX) (fun _ _ _ _ _ _ _ _ _ _ _ _ h => h.elim) (ue hX a) (ue hX b) (ue hX c) hm) fun I H adr σ Q s q => ?_
    refine ha I H adr σ _ s fun v I1 H1 adr1 s1 g1 v1 => hb I1 H1 adr1 σ _ s1 fun w I2 H2 adr2 s2 g2 w2 => ?_
    refine r2 I2 H2 adr2 σ E v w _ s2 (v1.mono g2) w2 fun z I3 H3 adr3 s3 g3 z3 => ?_
    cases (show Rep I3 (.bl false) z from z3)
    refine ⟨false, rfl, ?_⟩
    show ∃ k, V.bl false = V.bl k ∧ Q k H3
    exact ⟨false, rfl, q I3 H3 adr3 s3 ((g1.trans g2).trans g3)⟩

/-! #### ints -/
theorem ro_I0 {g : Int → Int → V} (h : ∀ I, Rep I d (g i j)) : RO (rI0 g) (.dat (.int i)) (.dat (.int j)) M (.dat d) M := fun I H adr σ E v w Q s hv hw q => by
  cases (show Rep I (.int i) v from hv)
  cases (show Rep I (.int j) w from hw)
  exact ⟨i, j, rfl, rfl, q _ I H adr s Grow.refl (h I)⟩
theorem ro_I {g : Int → Int → V} {Cd : Int → Int → Prop} (hc : Cd i j) (h : ∀ I, Rep I d (g i j)) : RO (rI Cd g) (.dat (.int i)) (.dat (.int j)) M (.dat d) M := fun I H adr σ E v w Q s hv hw q => by
  cases (show Rep I (.int i) v from hv)
  cases (show Rep I (.int j) w from hw)
  exact ⟨i, j, rfl, rfl, hc, q _ I H adr s Grow.refl (h I)⟩
theorem op_mulX {X : Cx} : OpR X (binaryOp .Mult) (rI IntMulOk fun i j => .int (i * j)) := opI fun _ _ _ _ _ _ _ hc q => mul_int q hc
theorem BS.addI : BS C .Add (.dat (.int i)) (.dat (.int j)) M (.dat (.int (i + j))) M := ⟨_, fun X _ => op_add, ro_I0 fun _ => .int _⟩
theorem BS.subI : BS C .Sub (.dat (.int i)) (.dat (.int j)) M (.dat (.int (i - j))) M := ⟨_, fun X _ => op_sub, ro_I0 fun _ => .int _⟩
theorem BS.mulI (h : IntMulOk i j) : BS C .Mult (.dat (.int i)) (.dat (.int j)) M (.dat (.int (i * j))) M := ⟨_, fun X _ => op_mulX, ro_I h fun _ => .int _⟩
theorem BS.modI (h : 0 < j) : BS C .Mod (.dat (.int i)) (.dat (.int j)) M (.dat (.int (i % j))) M := ⟨_, fun X _ => op_mod, ro_I h fun _ => .int _⟩
theorem BS.divI (h : CDivW i j) : BS C .FloorDiv (.dat (.int i)) (.dat (.int j)) M (.dat (.int (i / j))) M := ⟨_, fun X _ => op_fdivW, ro_I h fun _ => .int _⟩
theorem BS.powI (h : CPow i j) : BS C .Pow (.dat (.int i)) (.dat (.int j)) M (.dat (.int (i ^ j.toNat))) M := ⟨_, fun X _ => op_pow, ro_I h fun _ => .int _⟩
theorem CS.ltI : CS C .Lt (.dat (.int i)) (.dat (.int j)) M (.dat (.bl (decide (i < j)))) M := ⟨_, fun X _ => op_lt, ro_I0 fun _ => .bl _⟩
theorem CS.leI : CS C .LtE (.dat (.int i)) (.dat (.int j)) M (.dat (.bl (decide (i ≤ j)))) M := ⟨_, fun X _ => op_le, ro_I0 fun _ => .bl _⟩
theorem CS.gtI : CS C .Gt (.dat (.int i)) (.dat (.int j)) M (.dat (.bl (decide (j < i)))) M := ⟨_, fun X _ => op_gt, ro_I0 fun _ => .bl _⟩
theorem CS.geI : CS C .GtE (.dat (.int i)) (.dat (.int j)) M (.dat (.bl (decide (j ≤ i)))) M := ⟨_, fun X _ => op_ge, ro_I0 fun _ => .bl _⟩
theorem EV.neg (h : EV C a E M (.dat (.int i)) M') : EV C (.UnaryOp .USub a pos) E M (.dat (.int (-i))) M' :=
  EV.mk (fun X hX => pe_un un_neg (ue hX a)) fun I H adr σ Q s q => h I H adr σ _ s fun v I1 H1 adr1 s1 g1 v1 => by
    cases (show Rep I1 (.int i) v from v1)
    exact ⟨i, rfl, q _ I1 H1 adr1 s1 g1 (.int _)⟩
/-! #### equality of scalars -/
theorem ro_eq {x y : V} {kk : Bool} (hx : ∀ I v, Rep I d1 v → v = x) (hy : ∀ I v, Rep I d2 v → v = y) (hs : scal x y = true) (hk : decide (x = y) = kk) : RO rEq (.dat d1) (.dat d2) M (.dat (.bl kk)) M := fun I H adr σ E v w Q s hv hw q => by
  cases hx I v hv
  cases hy I w hw
  exact ⟨hs, q _ I H adr s Grow.refl (by rw [hk]; exact .bl _)⟩
theorem ro_ne {x y : V} {kk : Bool} (hx : ∀ I v, Rep I d1 v → v = x) (hy : ∀ I v, Rep I d2 v → v = y) (hs : scal x y = true) (hk : (!decide (x = y)) = kk) : RO rNe (.dat d1) (.dat d2) M (.dat (.bl kk)) M := fun I H adr σ E v w Q s hv hw q => by
  cases hx I v hv
  cases hy I w hw
  exact ⟨hs, q _ I H adr s Grow.refl (by rw [hk]; exact .bl _)⟩
theorem rep_int {I : Hp} {v : V} (h : Rep I (.int i) v) : v = .int i := by cases h; rfl
theorem rep_bl {I : Hp} {v : V} (h : Rep I (.bl k) v) : v = .bl k := by cases h; rfl
theorem rep_str {I : Hp} {v : V} {x : Str} (h : Rep I (.str x) v) : v = .str x := by cases h; rfl
theorem rep_non {I : Hp} {v : V} (h : Rep I .non v) : v = .non := by cases h; rfl
theorem dec_i : decide (V.int i = V.int j) = decide (i = j) := by
  rw [Bool.eq_iff_iff]
  simp
theorem dec_b : decide (V.bl k = V.bl k') = decide (k = k') := by
  rw [Bool.eq_iff_iff]
  simp
theorem dec_s {x y : Str} : decide (V.str x = V.str y) = decide (x = y) := by
  rw [Bool.eq_iff_iff]
  simp
theorem CS.eqI : CS C .Eq (.dat (.int i)) (.dat (.int j)) M (.dat (.bl (decide (i = j)))) M := ⟨_, fun X _ => op_eq, ro_eq (fun _ _ => rep_int) (fun _ _ => rep_int) rfl dec_i⟩
theorem CS.neI : CS C .NotEq (.dat (.int i)) (.dat (.int j)) M (.dat (.bl (!decide (i = j)))) M := ⟨_, fun X _ => op_ne, ro_ne (fun _ _ => rep_int) (fun _ _ => rep_int) rfl (by rw [dec_i])⟩
theorem CS.eqB : CS C .Eq (.dat (.bl k)) (.dat (.bl k')) M (.dat (.bl (decide (k = k')))) M := ⟨_, fun X _ => op_eq, ro_eq (fun _ _ => rep_bl) (fun _ _ => rep_bl) rfl dec_b⟩
theorem CS.eqS {x y : Str} : CS C .Eq (.dat (.str x)) (.dat (.str y)) M (.dat (.bl (decide (x = y)))) M := ⟨_, fun X _ => op_eq, ro_eq (fun _ _ => rep_str) (fun _ _ => rep_str) rfl dec_s⟩
theorem CS.neS {x y : Str} : CS C .NotEq (.dat (.str x)) (.dat (.str y)) M (.dat (.bl (!decide (x = y)))) M := ⟨_, fun X _ => op_ne, ro_ne (fun _ _ => rep_str) (fun _ _ => rep_str) rfl (by rw [dec_s])⟩
/-! #### is None -/
def D.isN : D → Bool
  | .non => true
  | _ => false
theorem rep_isN {I : Hp} {v : V} (h : Rep I d v) : decide (v = .non) = d.isN := by
  cases h <;> rfl
theorem EV.isN {jj : Nat} (h : EV C a E M (.dat d) M') : EV C (.Compare a [.Is] [.Constant .none jj p] pos) E M (.dat (.bl d.isN)) M' :=
  EV.mk (fun X hX => pe_cmp (pc_isN (ue hX a))) fun I H adr σ Q s q => h I H adr σ _ s fun v I1 H1 adr1 s1 g1 v1 => q _ I1 H1 adr1 s1 g1 (by rw [rep_isN v1]; exact .bl _)
theorem EV.notN {jj : Nat} (h : EV C a E M (.dat d) M') : EV C (.Compare a [.IsNot] [.Constant .none jj p] pos) E M (.dat (.bl (!d.isN))) M' :=
  EV.mk (fun X hX => pe_cmp (pc_notN (ue hX a))) fun I H adr σ Q s q => h I H adr σ _ s fun v I1 H1 adr1 s1 g1 v1 => q _ I1 H1 adr1 s1 g1 (by rw [rep_isN v1]; exact .bl _)
theorem ET.isN {jj : Nat} (h : EV C a E M (.dat d) M') : ET C (.Compare a [.Is] [.Constant .none jj p] pos) E M d.isN M' :=
  ET.mk (fun X hX => pt_cmp (pc_isN (ue hX a))) fun I H adr σ Q s q => h I H adr σ _ s fun v I1 H1 adr1 s1 g1 v1 => ⟨_, rfl, by rw [rep_isN v1]; exact q I1 H1 adr1 s1 g1⟩
theorem ET.notN {jj : Nat} (h : EV C a E M (.dat d) M') : ET C (.Compare a [.IsNot] [.Constant .none jj p] pos) E M (!d.isN) M' :=
  ET.mk (fun X hX => pt_cmp (pc_notN (ue hX a))) fun I H adr σ Q s q => h I H adr σ _ s fun v I1 H1 adr1 s1 g1 v1 => ⟨_, rfl, by rw [rep_isN v1]; exact q I1 H1 adr1 s1 g1⟩

/-! #### texts, tuples, lists joined -/
theorem BS.addS {x y : Str} (h : x.length + y.length ≤ sizeLine) : BS C .Add (.dat (.str x)) (.dat (.str y)) M (.dat (.str (x ++ y))) M := ⟨_, fun X _ => op_add_str, fun I H adr σ E v w Q s hv hw q => by
  cases rep_str hv
  cases rep_str hw
  exact ⟨x, y, rfl, rfl, h, q _ I H adr s Grow.refl (.str _)⟩⟩
theorem BS.addT {ds es : List D} (h : ds.length + es.length ≤ 100000) : BS C .Add (.dat (.tup ds)) (.dat (.tup es)) M (.dat (.tup (ds ++ es))) M := ⟨rCatA C.g.K, fun X hX => by
  have := op_catA (X := X)
  rw [hX.K] at this
  exact this, fun I H adr σ E v w Q s hv hw q => by
  cases (show Rep I (.tup ds) v from hv) with
  | @tup a xs _ ha hr =>
    cases (show Rep I (.tup es) w from hw) with
    | @tup b ys _ hb hs =>
      have l1 := hr.length
      have l2 := hs.length
      refine ⟨a, b, xs, ys, rfl, rfl, .inl (.inl (s.ex _ _ ha)), .inl (.inl (s.ex _ _ hb)), by rw [← l1, ← l2]; exact sz_of h, fun e => ?_, fun _ e => ?_, fun _ _ p hp => ?_⟩
      · subst e
        cases hr
        exact q _ I H adr s Grow.refl hw
      · subst e
        cases hs
        rw [List.append_nil] at q
        exact q _ I H adr s Grow.refl hv
      · obtain ⟨s2, g2, r2⟩ := s.tup hp (hr.append hs)
        exact q _ _ _ _ s2 g2 r2⟩
theorem BS.addL {ds es : List D} (h : ds.length + es.length ≤ 100000) : BS C .Add (.dat (.lst ds)) (.dat (.lst es)) M (.dat (.lst (ds ++ es))) M := ⟨rCat, fun X hX => op_cat, fun I H adr σ E v w Q s hv hw q => by
  cases (show Rep I (.lst ds) v from hv) with
  | @lst a xs _ ha hr =>
    cases (show Rep I (.lst es) w from hw) with
    | @lst b ys _ hb hs =>
      have l1 := hr.length
      have l2 := hs.length
      refine ⟨a, b, xs, ys, rfl, rfl, s.ex _ _ ha, s.ex _ _ hb, by rw [← l1, ← l2]; exact sz_of h, fun p hp => ?_⟩
      obtain ⟨s2, g2, r2⟩ := s.lst hp (hr.append hs)
      exact q _ _ _ _ s2 g2 r2⟩
theorem BS.mulT {ds : List D} (h0 : ds ≠ []) (h1 : 2 ≤ i) (h2 : i ≤ 1000) (h3 : ds.length ≤ 1000) : BS C .Mult (.dat (.tup ds)) (.dat (.int i)) M (.dat (.tup (List.replicate i.toNat ds).flatten)) M := ⟨rRepT C.g.K, fun X hX => by
  have := op_repT (X := X)
  rw [hX.K] at this
  exact this, fun I H adr σ E v w Q s hv hw q => by
  cases rep_int hw
  cases (show Rep I (.tup ds) v from hv) with
  | @tup a xs _ ha hr =>
    have l1 := hr.length
    refine ⟨a, i, xs, rfl, rfl, .inl (.inl (s.ex _ _ ha)), fun e => ?_, h1, h2, by rw [← l1]; exact h3, fun p hp => ?_⟩
    · subst e
      cases hr
      exact h0 rfl
    · obtain ⟨s2, g2, r2⟩ := s.tup hp (hr.rep i.toNat)
      exact q _ _ _ _ s2 g2 r2⟩
theorem BS.mulL {ds : List D} (h0 : 0 ≤ i) (h2 : i ≤ 1000) (h3 : ds.length ≤ 100) : BS C .Mult (.dat (.lst ds)) (.dat (.int i)) M (.dat (.lst (List.replicate i.toNat ds).flatten)) M := ⟨rRep, fun X hX => op_rep, fun I H adr σ E v w Q s hv hw q => by
  cases rep_int hw
  cases (show Rep I (.lst ds) v from hv) with
  | @lst a xs _ ha hr =>
    have l1 := hr.length
    refine ⟨a, i, xs, rfl, rfl, s.ex _ _ ha, by omega, by omega, ?_, fun p hp => ?_⟩
    · have : xs.length * i.toNat ≤ 100 * 1000 := Nat.mul_le_mul (by omega) (by omega)
      exact sz_of (by omega)
    · obtain ⟨s2, g2, r2⟩ := s.lst hp (hr.rep i.toNat)
      exact q _ _ _ _ s2 g2 r2⟩

/-! #### subscripts -/
def ixD : D → Int → Option D
  | .tup ds, i => atI ds i
  | .lst ds, i => atI ds i
  | _, _ => none
theorem reps_atI {I : Hp} {ds : List D} {xs : List V} (r : Reps I ds xs) {i : Int} {d : D} (h : atI ds i = some d) : ∃ v, atI xs i = some v ∧ Rep I d v := by
  unfold atI at h ⊢
  rw [← r.length]
  cases q : ixN ds.length i with
  | none => rw [q] at h; cases h
  | some j =>
    rw [q] at h
    exact r.get h
theorem vs_atI {I : Hp} {adr : List Addr} {ps : List O} {xs : List V} (r : Vs I adr ps xs) {i : Int} {o : O} (h : atI ps i = some o) : ∃ v, atI xs i = some v ∧ Vo I adr o v := by
  unfold atI at h ⊢
  rw [← r.length]
  cases q : ixN ps.length i with
  | none => rw [q] at h; cases h
  | some j =>
    rw [q] at h
    exact r.get h
theorem EV.ix (ha : EV C a E M (.dat d1) M1) (hb : EV C b E M1 (.dat (.int i)) M') (h : ixD d1 i = some d) (hs : PlainIx b := by exact fun _ _ => rfl) : EV C (.Subscript a b pos) E M (.dat d) M' :=
  EV.mk (t := tOp (rIx C.g.K) (UE C a) (UE C b)) (fun X hX => by
    have := pe_ix (pos := pos) ix_seq (ue hX a) (ue hX b) hs
    rw [hX.K] at this
    exact this) (ev_op ha hb fun I H adr σ E v w Q s hv hw q => by
      cases rep_int hw
      cases (show Rep I d1 v from hv) with
      | @tup p xs ds hp hr =>
        obtain ⟨x, e1, e2⟩ := reps_atI hr h
        exact .inr (.inl ⟨p, xs, i, x, rfl, rfl, .inl (.inl (s.ex _ _ hp)), e1, q x I H adr s Grow.refl e2⟩)
      | @lst p xs ds hp hr =>
        obtain ⟨x, e1, e2⟩ := reps_atI hr h
        exact .inl ⟨p, xs, i, x, rfl, rfl, .inl (.inl (s.ex _ _ hp)), e1, q x I H adr s Grow.refl e2⟩
      | _ => cases h)
theorem EV.ixC {n : Nat} {ps : List O} (ha : EV C a E M (.adr n) M1) (hb : EV C b E M1 (.dat (.int i)) M') (hm : M'[n]? = some (some ps)) (h : atI ps i = some o) (hs : PlainIx b := by exact fun _ _ => rfl) : EV C (.Subscript a b pos) E M o M' :=
  EV.mk (t := tOp (rIx C.g.K) (UE C a) (UE C b)) (fun X hX => by
    have := pe_ix (pos := pos) ix_seq (ue hX a) (ue hX b) hs
    rw [hX.K] at this
    exact this) (ev_op ha hb fun I H adr σ E v w Q s hv hw q => by
      cases rep_int hw
      obtain ⟨p, hp, rfl⟩ := hv
      obtain ⟨_, xs, h2, h3⟩ := s.sto.cell n p ps hp hm
      obtain ⟨x, e1, e2⟩ := vs_atI h3 h
      exact .inl ⟨p, xs, i, x, rfl, rfl, .inl (.inl h2), e1, q x I H adr s Grow.refl e2⟩)
/-- parts of a slice -/
def UO (C : Cc) (e : Option Expr) : TO := fun σ H Q => ∃ t : TO, (∀ X, CxIs C X → PO X e t) ∧ t σ H Q
theorem uo {C : Cc} {X : Cx} (h : CxIs C X) (e : Option Expr) : PO X e (UO C e) := ⟨fun pins s σ H Q I q => let ⟨_, p, q⟩ := q; (p X h).run pins s σ H Q I q⟩
def EO (C : Cc) (e : Option Expr) (E : List O) (M : Mem) (o : Option Int) (M' : Mem) : Prop :=
  ∀ (I H : Hp) (adr : List Addr) (σ : L2.St) (Q : Option Int → Hp → Prop), Stt I H adr σ E M → (∀ I' H' adr', Stt I' H' adr' σ E M' → Grow I H adr I' H' adr' → Q o H') → UO C e σ H Q
theorem EO.none : EO C none E M none M := fun I H adr σ Q s q => ⟨tNoPart, fun _ _ => po_none, q I H adr s Grow.refl⟩
theorem EO.some (h : EV C a E M (.dat (.int i)) M') : EO C (some a) E M (some i) M' := fun I H adr σ Q s q => ⟨tPart (UE C a), fun X hX => po_some (ue hX a), h I H adr σ _ s fun v I1 H1 adr1 s1 g1 v1 => by
  cases rep_int v1
  exact ⟨i, rfl, q I1 H1 adr1 s1 g1⟩⟩
def cutD {α : Type} (ds : List α) (lo hi : Option Int) : List α := (ds.drop (HT.sIx ds.length 0 lo)).take (HT.sIx ds.length ds.length hi - HT.sIx ds.length 0 lo)
theorem reps_cut {I : Hp} {ds : List D} {xs : List V} (r : Reps I ds xs) (lo hi : Option Int) : Reps I (cutD ds lo hi) (cutV xs lo hi) := by
  unfold cutD cutV
  rw [r.length]
  exact (r.drop _).take _
theorem vs_cut {I : Hp} {adr : List Addr} {ps : List O} {xs : List V} (r : Vs I adr ps xs) (lo hi : Option Int) : Vs I adr (cutD ps lo hi) (cutV xs lo hi) := by
  unfold cutD cutV
  rw [r.length]
  exact (r.drop _).take _
theorem cutD_all {α : Type} {ds : List α} {lo hi : Option Int} (h1 : HT.sIx ds.length 0 lo = 0) (h2 : HT.sIx ds.length ds.length hi = ds.length) : cutD ds lo hi = ds := by
  unfold cutD
  rw [h1, h2, List.drop_zero, Nat.sub_zero, List.take_length]
theorem EV.slT {ds : List D} {lo hi : Option Expr} {l u : Option Int} (ha : EV C a E M (.dat (.tup ds)) M1) (hl : EO C lo E M1 l M2) (hh : EO C hi E M2 u M') : EV C (.Subscript a (.Slice lo hi none p) pos) E M (.dat (.tup (cutD ds l u))) M' :=
  EV.mk (t := tSl (rSlA C.g.K) (UE C a) (UO C lo) (UO C hi)) (fun X hX => by
    have := pe_slice (p2 := p) (pos := pos) (sl_tupA (X := X)) (ue hX a) (uo hX lo) (uo hX hi)
    rw [hX.K] at this
    exact this) fun I H adr σ Q s q => ha I H adr σ _ s fun v I1 H1 adr1 s1 g1 v1 => hl I1 H1 adr1 σ _ s1 fun I2 H2 adr2 s2 g2 => hh I2 H2 adr2 σ _ s2 fun I3 H3 adr3 s3 g3 => by
      have v3 := (v1.mono g2).mono g3
      cases (show Rep I3 (.tup ds) v from v3) with
      | @tup b xs _ hb hr =>
        have l1 := hr.length
        refine ⟨b, xs, rfl, .inl (.inl (s3.ex _ _ hb)), fun hw => ?_, fun _ p hp => ?_⟩
        · rw [← l1] at hw
          rw [cutD_all hw.1 hw.2] at q
          exact q _ I3 H3 adr3 s3 ((g1.trans g2).trans g3) v3
        · obtain ⟨s4, g4, r4⟩ := s3.tup hp (reps_cut hr l u)
          exact q _ _ _ _ s4 (((g1.trans g2).trans g3).trans g4) r4
theorem EV.slL {ds : List D} {lo hi : Option Expr} {l u : Option Int} (ha : EV C a E M (.dat (.lst ds)) M1) (hl : EO C lo E M1 l M2) (hh : EO C hi E M2 u M') : EV C (.Subscript a (.Slice lo hi none p) pos) E M (.dat (.lst (cutD ds l u))) M' :=
  EV.mk (t := tSl (rSlL C.g.K) (UE C a) (UO C lo) (UO C hi)) (fun X hX => by
    have := pe_slice (p2 := p) (pos := pos) (sl_list (X := X)) (ue hX a) (uo hX lo) (uo hX hi)
    rw [hX.K] at this
    exact this) fun I H adr σ Q s q => ha I H adr σ _ s fun v I1 H1 adr1 s1 g1 v1 => hl I1 H1 adr1 σ _ s1 fun I2 H2 adr2 s2 g2 => hh I2 H2 adr2 σ _ s2 fun I3 H3 adr3 s3 g3 => by
      have v3 := (v1.mono g2).mono g3
      cases (show Rep I3 (.lst ds) v from v3) with
      | @lst b xs _ hb hr =>
        refine ⟨b, xs, rfl, .inl (.inl (s3.ex _ _ hb)), fun p hp => ?_⟩
        obtain ⟨s4, g4, r4⟩ := s3.lst hp (reps_cut hr l u)
        exact q _ _ _ _ s4 (((g1.trans g2).trans g3).trans g4) r4
/-- a slice of a cell of data -/
theorem EV.slC {n : Nat} {ds : List D} {lo hi : Option Expr} {l u : Option Int} (ha : EV C a E M (.adr n) M1) (hl : EO C lo E M1 l M2) (hh : EO C hi E M2 u M') (hm : M'[n]? = some (some (ds.map .dat))) : EV C (.Subscript a (.Slice lo hi none p) pos) E M (.dat (.lst (cutD ds l u))) M' :=
  EV.mk (t := tSl (rSlL C.g.K) (UE C a) (UO C lo) (UO C hi)) (fun X hX => by
    have := pe_slice (p2 := p) (pos := pos) (sl_list (X := X)) (ue hX a) (uo hX lo) (uo hX hi)
    rw [hX.K] at this
    exact this) fun I H adr σ Q s q => ha I H adr σ _ s fun v I1 H1 adr1 s1 g1 v1 => hl I1 H1 adr1 σ _ s1 fun I2 H2 adr2 s2 g2 => hh I2 H2 adr2 σ _ s2 fun I3 H3 adr3 s3 g3 => by
      obtain ⟨b, hb, rfl⟩ := (v1.mono g2).mono g3
      obtain ⟨_, xs, h2, h3⟩ := s3.sto.cell n b _ hb hm
      refine ⟨b, xs, rfl, .inl (.inl h2), fun p hp => ?_⟩
      obtain ⟨s4, g4, r4⟩ := s3.lst hp (reps_cut h3.to l u)
      exact q _ _ _ _ s4 (((g1.trans g2).trans g3).trans g4) r4

/-! #### calls of built-ins -/
def RK (r : List V → Hp → VK → Prop) (os : List O) (M : Mem) (o : O) (M' : Mem) : Prop :=
  ∀ (I H : Hp) (adr : List Addr) (σ : L2.St) (E : List O) (vs : List V) (Q : VK), Stt I H adr σ E M → Vs I adr os vs → (∀ z I' H' adr', Stt I' H' adr' σ E M' → Grow I H adr I' H' adr' → Vo I' adr' o z → Q z H') → r vs H Q
def KS (C : Cc) (f : Value) (os : List O) (M : Mem) (o : O) (M' : Mem) : Prop := ∃ r, (∀ X, CxIs C X → CallR X f r) ∧ RK r os M o M'
theorem ev_cb {r : List V → Hp → VK → Prop} {ta : TA} (ha : Ea ta E M os M1) (hr : RK r os M1 o M') : Ev (tCB r ta) E M o M' := fun I H adr σ Q s q =>
  ha I H adr σ _ s fun vs I1 H1 adr1 s1 g1 v1 => hr I1 H1 adr1 σ E vs Q s1 v1 fun z I2 H2 adr2 s2 g2 z2 => q z I2 H2 adr2 s2 (g1.trans g2) z2
theorem EV.cb {id : String} {x : Str} {es : List Expr} (S : KS C (.builtin id) os M1 o M') (ha : EA C (e :: es) E M os M1) (hm : Bt C.g x) (hv : bootBuiltins x = some (.builtin id)) (hg : C.sc.names.lookup x = some .globalImplicit := by rfl) (hn : x ≠ "__name__" := by decide) (hdb : (x == ("__debug__" : Str)) = false := by decide)
    (he : ∀ env, starEach (e :: es) env = (false, eval e env) :: starEach es env := by intro _; rfl) (hpl : ∀ env, (backTo pos (starEach es env)).any (·.1) = false := by intro _; rfl) : EV C (.Call (.Name x p) (e :: es) [] pos) E M o M' := by
  obtain ⟨r, h1, h2⟩ := S
  exact EV.mk (fun X hX => pe_callB (h1 X hX) (by show X.env.scope.names.lookup x = _; rw [hX.sc]; exact hg) (by rw [hX.mg]; exact hm) hv (ua hX _) hn hdb (he X.env) (hpl X.env)) (ev_cb ha h2)
theorem EV.cty {T : String} {x : Str} {es : List Expr} (S : KS C (.type T) os M1 o M') (ha : EA C (e :: es) E M os M1) (hm : Bt C.g x) (hv : bootBuiltins x = some (.type T)) (hg : C.sc.names.lookup x = some .globalImplicit := by rfl) (hn : x ≠ "__name__" := by decide) (hdb : (x == ("__debug__" : Str)) = false := by decide)
    (he : ∀ env, starEach (e :: es) env = (false, eval e env) :: starEach es env := by intro _; rfl) (hpl : ∀ env, (backTo pos (starEach es env)).any (·.1) = false := by intro _; rfl) : EV C (.Call (.Name x p) (e :: es) [] pos) E M o M' := by
  obtain ⟨r, h1, h2⟩ := S
  exact EV.mk (fun X hX => pe_callTy (h1 X hX) (by show X.env.scope.names.lookup x = _; rw [hX.sc]; exact hg) (by rw [hX.mg]; exact hm) hv (ua hX _) hn hdb (he X.env) (hpl X.env)) (ev_cb ha h2)
theorem vsOne {I : Hp} {adr : List Addr} {vs : List V} (h : Vs I adr [o] vs) : ∃ v, vs = [v] ∧ Vo I adr o v := by
  cases h with
  | cons h r =>
    cases r
    exact ⟨_, rfl, h⟩
theorem vsTwo {I : Hp} {adr : List Addr} {vs : List V} (h : Vs I adr [o1, o2] vs) : ∃ v w, vs = [v, w] ∧ Vo I adr o1 v ∧ Vo I adr o2 w := by
  cases h with
  | cons h r =>
    obtain ⟨w, rfl, hw⟩ := vsOne r
    exact ⟨_, w, rfl, h, hw⟩
def lenD : D → Option Nat
  | .tup ds => some ds.length
  | .lst ds => some ds.length
  | _ => none
theorem KS.len {n : Nat} (h : lenD d = some n) : KS C (.builtin "len") [.dat d] M (.dat (.int (n : Int))) M := ⟨_, fun X hX => by
  have := call_len_seq (X := X)
  rw [hX.K] at this
  exact this, fun I H adr σ E vs Q s hv q => by
  obtain ⟨v, ev, hz⟩ := vsOne hv
  subst ev
  have hv := hz
  cases (show Rep I d v from hv) with
  | @tup p xs ds hp hr =>
    cases h
    refine ⟨p, xs, rfl, .inr (.inl (.inl (s.ex _ _ hp))), q _ I H adr s Grow.refl ?_⟩
    rw [hr.length]
    exact .int _
  | @lst p xs ds hp hr =>
    cases h
    refine ⟨p, xs, rfl, .inl (.inl (.inl (s.ex _ _ hp))), q _ I H adr s Grow.refl ?_⟩
    rw [hr.length]
    exact .int _
  | _ => cases h⟩
theorem KS.lenC {n : Nat} {ps : List O} (h : M[n]? = some (some ps)) : KS C (.builtin "len") [.adr n] M (.dat (.int (ps.length : Int))) M := ⟨_, fun X hX => by
  have := call_len_seq (X := X)
  rw [hX.K] at this
  exact this, fun I H adr σ E vs Q s hv q => by
  obtain ⟨v, ev, hz⟩ := vsOne hv
  subst ev
  have hv := hz
  obtain ⟨p, hp, rfl⟩ := hv
  obtain ⟨_, xs, h2, h3⟩ := s.sto.cell n p ps hp h
  refine ⟨p, xs, rfl, .inl (.inl (.inl h2)), q _ I H adr s Grow.refl ?_⟩
  rw [h3.length]
  exact .int _⟩
theorem reps_bl {I : Hp} : ∀ {bs : List Bool} {xs : List V}, Reps I (bs.map .bl) xs → xs = bs.map V.bl
  | [], _, .nil => rfl
  | b :: bs, _, .cons h r => by
    cases h
    rw [reps_bl r]
    rfl
theorem reps_int {I : Hp} : ∀ {ns : List Int} {xs : List V}, Reps I (ns.map .int) xs → xs = ns.map V.int
  | [], _, .nil => rfl
  | n :: ns, _, .cons h r => by
    cases h
    rw [reps_int r]
    rfl
theorem KS.sum {ns : List Int} : KS C (.builtin "sum") [.dat (.lst (ns.map .int))] M (.dat (.int ns.sum)) M := ⟨_, fun X hX => by
  have := cr_sum (X := X) hX.calm
  rw [hX.K] at this
  exact this, fun I H adr σ E vs Q s hv q => by
  obtain ⟨v, ev, hz⟩ := vsOne hv
  subst ev
  have hv := hz
  cases (show Rep I (.lst (ns.map .int)) v from hv) with
  | @lst p xs ds hp hr =>
    have e := reps_int hr
    subst e
    exact ⟨p, ns, rfl, .inl (.inl (s.ex _ _ hp)), q _ I H adr s Grow.refl (.int _)⟩⟩
theorem KS.all {bs : List Bool} : KS C (.builtin "all") [.dat (.lst (bs.map .bl))] M (.dat (.bl (bs.all id))) M := ⟨_, fun X hX => by
  have := cr_all (X := X) hX.calm
  rw [hX.K] at this
  exact this, fun I H adr σ E vs Q s hv q => by
  obtain ⟨v, ev, hz⟩ := vsOne hv
  subst ev
  have hv := hz
  cases (show Rep I (.lst (bs.map .bl)) v from hv) with
  | @lst p xs ds hp hr =>
    have e := reps_bl hr
    subst e
    exact ⟨p, bs, rfl, .inl (.inl (s.ex _ _ hp)), q _ I H adr s Grow.refl (.bl _)⟩⟩
theorem KS.any {bs : List Bool} : KS C (.builtin "any") [.dat (.lst (bs.map .bl))] M (.dat (.bl (bs.any id))) M := ⟨_, fun X hX => by
  have := cr_any (X := X) hX.calm
  rw [hX.K] at this
  exact this, fun I H adr σ E vs Q s hv q => by
  obtain ⟨v, ev, hz⟩ := vsOne hv
  subst ev
  have hv := hz
  cases (show Rep I (.lst (bs.map .bl)) v from hv) with
  | @lst p xs ds hp hr =>
    have e := reps_bl hr
    subst e
    exact ⟨p, bs, rfl, .inl (.inl (s.ex _ _ hp)), q _ I H adr s Grow.refl (.bl _)⟩⟩
theorem KS.minL {ns : List Int} {m : Int} (h : m ∈ ns) (hm : ∀ y ∈ ns, m ≤ y) : KS C (.builtin "min") [.dat (.lst (ns.map .int))] M (.dat (.int m)) M := ⟨_, fun X hX => by
  have := cr_min (X := X) hX.calm
  rw [hX.K] at this
  exact this, fun I H adr σ E vs Q s hv q => by
  obtain ⟨v, ev, hz⟩ := vsOne hv
  subst ev
  have hv := hz
  cases (show Rep I (.lst (ns.map .int)) v from hv) with
  | @lst p xs ds hp hr =>
    have e := reps_int hr
    subst e
    refine ⟨p, ns, rfl, .inl (.inl (s.ex _ _ hp)), List.length_pos_of_mem h, fun m' h1 h2 => ?_⟩
    have : m' = m := Int.le_antisymm (h2 m h) (hm m' h1)
    subst this
    exact q _ I H adr s Grow.refl (.int _)⟩
theorem KS.maxL {ns : List Int} {m : Int} (h : m ∈ ns) (hm : ∀ y ∈ ns, y ≤ m) : KS C (.builtin "max") [.dat (.lst (ns.map .int))] M (.dat (.int m)) M := ⟨_, fun X hX => by
  have := cr_max (X := X) hX.calm
  rw [hX.K] at this
  exact this, fun I H adr σ E vs Q s hv q => by
  obtain ⟨v, ev, hz⟩ := vsOne hv
  subst ev
  have hv := hz
  cases (show Rep I (.lst (ns.map .int)) v from hv) with
  | @lst p xs ds hp hr =>
    have e := reps_int hr
    subst e
    refine ⟨p, ns, rfl, .inl (.inl (s.ex _ _ hp)), List.length_pos_of_mem h, fun m' h1 h2 => ?_⟩
    have : m' = m := Int.le_antisymm (hm m' h1) (h2 m h)
    subst this
    exact q _ I H adr s Grow.refl (.int _)⟩
theorem KS.max2 : KS C (.builtin "max") [.dat (.int i), .dat (.int j)] M (.dat (.int (if j > i then j else i))) M := ⟨_, fun X hX => call_max2 hX.calm, fun I H adr σ E vs Q s hv q => by
  obtain ⟨v, w, ev, hz, hw⟩ := vsTwo hv
  subst ev
  have hv := hz
  cases rep_int hv
  cases rep_int hw
  exact ⟨i, j, rfl, q _ I H adr s Grow.refl (.int _)⟩⟩
theorem KS.abs : KS C (.builtin "abs") [.dat (.int i)] M (.dat (.int (i.natAbs : Int))) M := ⟨_, fun X hX => call_abs, fun I H adr σ E vs Q s hv q => by
  obtain ⟨v, ev, hz⟩ := vsOne hv
  subst ev
  have hv := hz
  cases rep_int hv
  refine ⟨i, rfl, q _ I H adr s Grow.refl ?_⟩
  have : (if i < 0 then -i else i) = (i.natAbs : Int) := by split <;> omega
  rw [this]
  exact .int _⟩
theorem KS.intI : KS C (.type "int") [.dat (.int i)] M (.dat (.int i)) M := ⟨_, fun X hX => call_int1, fun I H adr σ E vs Q s hv q => by
  obtain ⟨v, ev, hz⟩ := vsOne hv
  subst ev
  have hv := hz
  cases rep_int hv
  exact .inl ⟨i, rfl, q _ I H adr s Grow.refl (.int _)⟩⟩
theorem KS.intB : KS C (.type "int") [.dat (.bl k)] M (.dat (.int (if k then 1 else 0))) M := ⟨_, fun X hX => call_int1, fun I H adr σ E vs Q s hv q => by
  obtain ⟨v, ev, hz⟩ := vsOne hv
  subst ev
  have hv := hz
  cases rep_bl hv
  exact .inr ⟨k, rfl, q _ I H adr s Grow.refl (.int _)⟩⟩
def seqD : D → Option (List D)
  | .tup ds => some ds
  | .lst ds => some ds
  | _ => none
theorem KS.tuple {ds : List D} (h : seqD d = some ds) : KS C (.type "tuple") [.dat d] M (.dat (.tup ds)) M := ⟨_, fun X hX => by
  have := call_tuple_of (X := X)
  rw [hX.K] at this
  exact this, fun I H adr σ E vs Q s hv q => by
  obtain ⟨v, ev, hz⟩ := vsOne hv
  subst ev
  have hv := hz
  cases (show Rep I d v from hv) with
  | @tup p xs ds hp hr =>
    cases h
    exact ⟨p, xs, rfl, .inr ⟨.inl (.inl (s.ex _ _ hp)), q _ I H adr s Grow.refl hv⟩⟩
  | @lst p xs ds hp hr =>
    cases h
    refine ⟨p, xs, rfl, .inl ⟨.inl (.inl (s.ex _ _ hp)), fun l hl => ?_⟩⟩
    obtain ⟨s2, g2, r2⟩ := s.tup hl hr
    exact q _ _ _ _ s2 g2 r2
  | _ => cases h⟩
theorem KS.tupleC {n : Nat} {ds : List D} (h : M[n]? = some (some (ds.map .dat))) : KS C (.type "tuple") [.adr n] M (.dat (.tup ds)) M := ⟨_, fun X hX => by
  have := call_tuple_of (X := X)
  rw [hX.K] at this
  exact this, fun I H adr σ E vs Q s hv q => by
  obtain ⟨v, ev, hz⟩ := vsOne hv
  subst ev
  have hv := hz
  obtain ⟨p, hp, rfl⟩ := hv
  obtain ⟨_, xs, h2, h3⟩ := s.sto.cell n p _ hp h
  refine ⟨p, xs, rfl, .inl ⟨.inl (.inl h2), fun l hl => ?_⟩⟩
  obtain ⟨s2, g2, r2⟩ := s.tup hl h3.to
  exact q _ _ _ _ s2 g2 r2⟩
theorem KS.list {ds : List D} (h : seqD d = some ds) : KS C (.type "list") [.dat d] M (.dat (.lst ds)) M := ⟨_, fun X hX => by
  have := call_list_of (X := X)
  rw [hX.K] at this
  exact this, fun I H adr σ E vs Q s hv q => by
  obtain ⟨v, ev, hz⟩ := vsOne hv
  subst ev
  have hv := hz
  cases (show Rep I d v from hv) with
  | @tup p xs ds hp hr =>
    cases h
    refine ⟨p, xs, rfl, .inr (.inl (.inl (s.ex _ _ hp))), fun l hl => ?_⟩
    obtain ⟨s2, g2, r2⟩ := s.lst hl hr
    exact q _ _ _ _ s2 g2 r2
  | @lst p xs ds hp hr =>
    cases h
    refine ⟨p, xs, rfl, .inl (.inl (.inl (s.ex _ _ hp))), fun l hl => ?_⟩
    obtain ⟨s2, g2, r2⟩ := s.lst hl hr
    exact q _ _ _ _ s2 g2 r2
  | _ => cases h⟩
/-- list(..) that is a cell -/
theorem KS.listN {ds : List D} (h : seqD d = some ds) : KS C (.type "list") [.dat d] M (.adr M.length) (M ++ [some (ds.map .dat)]) := ⟨_, fun X hX => by
  have := call_list_of (X := X)
  rw [hX.K] at this
  exact this, fun I H adr σ E vs Q s hv q => by
  obtain ⟨v, ev, hz⟩ := vsOne hv
  subst ev
  have hv := hz
  cases (show Rep I d v from hv) with
  | @tup p xs ds hp hr =>
    cases h
    refine ⟨p, xs, rfl, .inr (.inl (.inl (s.ex _ _ hp))), fun l hl => ?_⟩
    obtain ⟨s2, g2, r2⟩ := s.cel hl (Vs.reps hr)
    exact q _ _ _ _ s2 g2 ⟨l, r2, rfl⟩
  | @lst p xs ds hp hr =>
    cases h
    refine ⟨p, xs, rfl, .inl (.inl (.inl (s.ex _ _ hp))), fun l hl => ?_⟩
    obtain ⟨s2, g2, r2⟩ := s.cel hl (Vs.reps hr)
    exact q _ _ _ _ s2 g2 ⟨l, r2, rfl⟩
  | _ => cases h⟩

/-! #### isinstance -/
def D.ty : D → String
  | .non => "NoneType" | .bl _ => "bool" | .int _ => "int" | .str _ => "str" | .tup _ => "tuple" | .lst _ => "list" | .dct _ _ => "dict"
theorem ty_of {K : PySem.W.Frag} {I H : Hp} {v : V} (e : Ex I H) (h : Rep I d v) : TyX K H v (.type d.ty) := by
  cases h with
  | non => exact .base .non
  | bl b => exact .base (.bl b)
  | int i => exact .base (.int i)
  | str x => exact .base (.str x)
  | tup h r => exact .base (.tup (e _ _ h))
  | lst h r => exact .base (.lst (e _ _ h))
  | dct h r => exact .base (.dK (e _ _ h))
/-- isinstance(x, T), T the name of a built-in class -/
theorem EV.isi {T : Str} {Tn : String} {x : Str} {pt : Pos} (ha : EV C a E M (.dat d) M') (hm : Bt C.g "isinstance") (hmT : Bt C.g T) (hv : bootBuiltins T = some (.type Tn)) (hk : kitB d.ty Tn = some k) (hx : x = "isinstance" := by rfl)
    (hg : C.sc.names.lookup x = some .globalImplicit := by rfl) (hgT : C.sc.names.lookup T = some .globalImplicit := by rfl) (hn : x ≠ "__name__" := by decide) (hdb : (x == ("__debug__" : Str)) = false := by decide) (hnT : T ≠ "__name__" := by decide) (hdbT : (T == ("__debug__" : Str)) = false := by decide)
    (hs : ∀ env, starEach [a, .Name T pt] env = (false, eval a env) :: starEach [.Name T pt] env := by intro _; rfl) (hpl : ∀ env, (backTo pos (starEach [.Name T pt] env)).any (·.1) = false := by intro _; rfl) : EV C (.Call (.Name x p) [a, .Name T pt] [] pos) E M (.dat (.bl k)) M' := by
  subst hx
  refine EV.mk (t := tCB (rIsi C.g.K) (tCons (UE C a) (tCons (tC (.ty Tn)) tNil))) (fun X hX => ?_) fun I H adr σ Q s q => ?_
  · have h1 := call_isi (X := X)
    rw [hX.K] at h1
    refine pe_callB h1 (by show X.env.scope.names.lookup _ = _; rw [hX.sc]; exact hg) (by rw [hX.mg]; exact hm) (by decide +kernel) (pa_cons (ue hX a) (pa_cons (pe_bltn (v := .ty Tn) (by show X.env.scope.names.lookup _ = _; rw [hX.sc]; exact hgT) (by rw [hX.mg]; exact hmT) hv rfl hnT hdbT) pa_nil) (hs X.env)) hn hdb (hs X.env) (hpl X.env)
  · refine ha I H adr σ _ s fun v I1 H1 adr1 s1 g1 v1 => ?_
    exact ⟨v, .ty Tn, _, _, k, rfl, .ty Tn, ty_of s1.ex v1, kit_ty hk, q _ I1 H1 adr1 s1 g1 (.bl _)⟩
/-- isinstance(x, (T1, T2)) -/
theorem EV.isi2 {T1 T2 : Str} {Tn1 Tn2 : String} {x : Str} {pt1 pt2 pt : Pos} {k1 k2 : Bool} {kt : Nat} (ha : EV C a E M (.dat d) M') (hm : Bt C.g "isinstance") (hm1 : Bt C.g T1) (hm2 : Bt C.g T2) (hv1 : bootBuiltins T1 = some (.type Tn1)) (hv2 : bootBuiltins T2 = some (.type Tn2)) (hk1 : kitB d.ty Tn1 = some k1) (hk2 : kitB d.ty Tn2 = some k2) (hx : x = "isinstance" := by rfl)
    (hg : C.sc.names.lookup x = some .globalImplicit := by rfl) (hg1 : C.sc.names.lookup T1 = some .globalImplicit := by rfl) (hg2 : C.sc.names.lookup T2 = some .globalImplicit := by rfl) (hn : x ≠ "__name__" := by decide) (hdb : (x == ("__debug__" : Str)) = false := by decide) (hn1 : T1 ≠ "__name__" := by decide) (hdb1 : (T1 == ("__debug__" : Str)) = false := by decide) (hn2 : T2 ≠ "__name__" := by decide) (hdb2 : (T2 == ("__debug__" : Str)) = false := by decide)
    (hs : ∀ env, starEach [a, .Tuple [.Name T1 pt1, .Name T2 pt2] kt pt] env = (false, eval a env) :: starEach [.Tuple [.Name T1 pt1, .Name T2 pt2] kt pt] env := by intro _; rfl) (hpl : ∀ env, (backTo pos (starEach [.Tuple [.Name T1 pt1, .Name T2 pt2] kt pt] env)).any (·.1) = false := by intro _; rfl) :
    EV C (.Call (.Name x p) [a, .Tuple [.Name T1 pt1, .Name T2 pt2] kt pt] [] pos) E M (.dat (.bl (k1 || k2))) M' := by
  subst hx
  refine EV.mk (t := tCB (rIsiT C.g.K) (tCons (UE C a) (tCons (tTup (tCons (tC (.ty Tn1)) (tCons (tC (.ty Tn2)) tNil))) tNil))) (fun X hX => ?_) fun I H adr σ Q s q => ?_
  · have h1 := call_isiT (X := X)
    rw [hX.K] at h1
    refine pe_callB h1 (by show X.env.scope.names.lookup _ = _; rw [hX.sc]; exact hg) (by rw [hX.mg]; exact hm) (by decide +kernel)
      (pa_cons (ue hX a) (pa_cons (pe_tup (pa_cons (pe_bltn (v := .ty Tn1) (by show X.env.scope.names.lookup _ = _; rw [hX.sc]; exact hg1) (by rw [hX.mg]; exact hm1) hv1 rfl hn1 hdb1) (pa_cons (pe_bltn (v := .ty Tn2) (by show X.env.scope.names.lookup _ = _; rw [hX.sc]; exact hg2) (by rw [hX.mg]; exact hm2) hv2 rfl hn2 hdb2) pa_nil))) pa_nil) (hs X.env)) hn hdb (hs X.env) (hpl X.env)
  · refine ha I H adr σ _ s fun v I1 H1 adr1 s1 g1 v1 => ?_
    refine ⟨by show 2 ≤ sizeLine; decide, fun tp htp => ?_⟩
    have hi := s1.ex.non htp
    have ex2 : Ex I1 (upd H1 tp (.tup [.ty Tn1, .ty Tn2])) := s1.ex.mut hi
    refine ⟨v, tp, [.ty Tn1, .ty Tn2], _, [.type Tn1, .type Tn2], k1 || k2, rfl, upd_same, .cons (.ty Tn1) (.cons (.ty Tn2) .nil), ty_of ex2 v1, ?_, ?_⟩
    · refine kitAny_cons (kit_ty hk1) (fun e => kitAny_cons (r := k1 || k2) (kit_ty hk2) (fun e2 => by rw [e, e2]; exact kitAny_nil) (fun e2 => by rw [e2]; simp)) (fun e => by rw [e]; rfl)
    · have g2 : Grow I1 H1 adr1 I1 (upd H1 tp (.tup [.ty Tn1, .ty Tn2])) adr1 :=
        ⟨Ex.refl _, ⟨[], by simp, by simp⟩, fun q u h _ _ => by rw [upd_ne (ne_of_none h htp)]; exact h, fun q u h n => ⟨u, by rw [upd_ne (ne_of_none h htp)]; exact h, n⟩, fun _ _ _ _ h _ => h, fun c q h => by rw [upd_ne (ne_of_none h htp)]; exact h⟩
      have t2 : Sto I1 (upd H1 tp (.tup [.ty Tn1, .ty Tn2])) adr1 M' := by
        refine ⟨s1.sto.len, s1.sto.nd, fun kk b ps h1 h2 => ?_, fun kk b h => ?_, s1.sto.amb.new htp⟩
        · obtain ⟨c1, ys, c2, c3⟩ := s1.sto.cell kk b ps h1 h2
          exact ⟨c1, ys, by rw [upd_ne (ne_of_none c2 htp)]; exact c2, c3⟩
        · obtain ⟨u, hu, n⟩ := s1.sto.dom kk b h
          exact ⟨u, by rw [upd_ne (ne_of_none hu htp)]; exact hu, n⟩
      exact q _ I1 _ adr1 (s1.mono g2 ex2 t2) (g1.trans g2) (.bl _)
end
end Ab
/-! Ab: targets, loops, comprehensions, methods, calls. -/
namespace Ab
open PySem PySem.Spec PyProof.Rows L2
variable [TabCtx]

/-! ### targets -/
def UG (C : Cc) (tg : Expr) : TG := fun v σ H Q => ∃ t : TG, (∀ X, CxIs C X → PG X tg t) ∧ t v σ H Q
def UGs (C : Cc) (tgs : List Expr) : TGs := fun vs σ H Q => ∃ t : TGs, (∀ X, CxIs C X → PGs X tgs t) ∧ t vs σ H Q
theorem ug {C : Cc} {X : Cx} (h : CxIs C X) (e : Expr) : PG X e (UG C e) := ⟨fun pins s σ H v u Q I r q => let ⟨_, p, q⟩ := q; (p X h).run pins s σ H v u Q I r q⟩
theorem ugs {C : Cc} {X : Cx} (h : CxIs C X) (es : List Expr) : PGs X es (UGs C es) := ⟨fun pins s σ H vs us Q I r q => let ⟨_, p, q⟩ := q; (p X h).run pins s σ H vs us Q I r q⟩
def EG (C : Cc) (tg : Expr) (o : O) (E : List O) (M : Mem) (E' : List O) (M' : Mem) : Prop :=
  ∀ (I H : Hp) (adr : List Addr) (σ : L2.St) (v : V) (Q : L2.St → Hp → Prop), Stt I H adr σ E M → Vo I adr o v → (∀ I' H' adr' σ', Stt I' H' adr' σ' E' M' → Grow I H adr I' H' adr' → Q σ' H') → UG C tg v σ H Q
def EGs (C : Cc) (tgs : List Expr) (os : List O) (E : List O) (M : Mem) (E' : List O) (M' : Mem) : Prop :=
  ∀ (I H : Hp) (adr : List Addr) (σ : L2.St) (vs : List V) (Q : L2.St → Hp → Prop), Stt I H adr σ E M → Vs I adr os vs → (∀ I' H' adr' σ', Stt I' H' adr' σ' E' M' → Grow I H adr I' H' adr' → Q σ' H') → UGs C tgs vs σ H Q
/-- what is forgotten -/
def Fg (E E' : List O) : Prop := E.length = E'.length ∧ ∀ (i : Nat) (o : O), E'[i]? = some o → o = .no ∨ E[i]? = some o
theorem Fg.refl {E : List O} : Fg E E := ⟨rfl, fun _ _ h => .inr h⟩
theorem Fg.cons {o : O} {E E' : List O} (h : Fg E E') : Fg (o :: E) (o :: E') := ⟨by simp [h.1], fun i p q => by
  cases i with
  | zero => exact .inr q
  | succ i => exact h.2 i p (by simpa using q)⟩
theorem Fg.no {o : O} {E E' : List O} (h : Fg E E') : Fg (o :: E) (.no :: E') := ⟨by simp [h.1], fun i p q => by
  cases i with
  | zero => exact .inl (by simpa using q.symm)
  | succ i => exact h.2 i p (by simpa using q)⟩
theorem Fg.nil : Fg [] [] := Fg.refl
theorem Stt.forget {I H : Hp} {adr : List Addr} {σ : L2.St} {E E' : List O} {M : Mem} (s : Stt I H adr σ E M) (f : Fg E E') : Stt I H adr σ E' M :=
  ⟨s.ex, s.sto, f.1.symm.trans s.len, fun i o ov h1 h2 => by
    rcases f.2 i o h1 with e | e
    · subst e
      cases ov with
      | none => rfl
      | some v => exact True.intro
    · exact s.slot i o ov e h2⟩

section
variable {C : Cc} {E E1 E2 E' : List O} {M M1 M2 M3 M' : Mem} {o o1 o2 o3 : O} {os : List O} {e a b c tg iter elt : Expr} {es : List Expr} {pos pos' p : Pos} {d d1 d2 : D} {i j : Int} {k k' : Bool} {r : Out} {body : List Stmt}
theorem EG.nm (i : Nat) {x : Str} (nd : C.N.Nodup) (hi : C.N[i]? = some x := by rfl) (hx : Loc C.sc x := by first | exact Or.inl rfl | exact Or.inr rfl) (hf : C.fn x = true ∨ C.sc.names.lookup x = some .local := by first | exact .inl rfl | exact .inr rfl) : EG C (.Name x pos) o E M (E.set i o) M :=
  fun I H adr σ v Q s hv q => ⟨gName i, fun X hX => pg_name (by rw [hX.N]; exact nd) (by rw [hX.N]; exact hi) (by rw [hX.sc]; exact hx) (hf.elim (fun z => .inl (hX.fn x z)) (fun z => .inr (by rw [hX.sc]; exact z))), q I H adr _ (s.set hv) Grow.refl⟩
theorem EGs.nil : EGs C [] [] E M E M := fun I H adr σ vs Q s hv q => by
  cases hv
  exact ⟨gNil, fun _ _ => pgs_nil, rfl, q I H adr σ s Grow.refl⟩
theorem EGs.cons (h : EG C a o E M E1 M1) (hr : EGs C es os E1 M1 E' M') (hs : ∀ env, (assignEach (a :: es) env).map (·.2) = assign a env :: (assignEach es env).map (·.2) := by intro _; rfl) : EGs C (a :: es) (o :: os) E M E' M' :=
  fun I H adr σ vs Q s hv q => by
    cases hv with
    | @cons _ v _ vs hv hr' =>
      refine ⟨gCons (UG C a) (UGs C es), fun X hX => pgs_cons (ug hX a) (ugs hX es) (hs X.env), v, vs, rfl, ?_⟩
      exact h I H adr σ v _ s hv fun I1 H1 adr1 σ1 s1 g1 => hr I1 H1 adr1 σ1 vs Q s1 (Vs.mono g1 hr') fun I2 H2 adr2 σ2 s2 g2 => q I2 H2 adr2 σ2 s2 (g1.trans g2)
theorem EG.tup {ds : List D} {kk : Nat} (h : EGs C es (ds.map .dat) E M E' M') (hn : ∀ env, (assignEach es env).length = ds.length := by intro _; rfl) (hst : ∀ env, (assignEach es env).findIdx? (·.1) = none := by intro _; rfl) : EG C (.Tuple es kk pos) (.dat (.tup ds)) E M E' M' :=
  fun I H adr σ v Q s hv q => by
    cases (show Rep I (.tup ds) v from hv) with
    | @tup p xs _ hp hr =>
      refine ⟨gTup C.g.K ds.length (UGs C es), fun X hX => by
        have := pg_tup (pos := pos) (k := kk) hX.calm (ugs hX es) (hn X.env) (hst X.env)
        rw [hX.K] at this
        exact this, p, xs, rfl, .inl (.inl (s.ex _ _ hp)), hr.length.symm, ?_⟩
      exact h I H adr σ xs Q s (Vs.reps hr) q
/-- o[i] = .., o a cell -/
theorem EG.sub {n jj : Nat} {ps : List O} (ho : EV C a E M (.adr n) M1) (hi : EV C b E M1 (.dat (.int i)) M2) (hm : M2[n]? = some (some ps)) (hj : ixN ps.length i = some jj)
    (ha : ∀ env v, assign (.Subscript a b pos) env v = (do
      let ov ← holding [v] (eval a env)
      let iv ← holding [v, ov] (eval b env)
      standAt pos
      holding [v, ov, iv] (setItem ov iv v)
      release [v, ov, iv] []) := by intro _ _; rfl) : EG C (.Subscript a b pos) o E M E (M2.set n (some (ps.set jj o))) :=
  fun I H adr σ v Q s hv q => ⟨gSub (UE C a) (UE C b) rSetL, fun X hX => pg_sub (ue hX a) (ue hX b) set_list (ha X.env),
    ho I H adr σ _ s fun x I1 H1 adr1 s1 g1 x1 => hi I1 H1 adr1 σ _ s1 fun y I2 H2 adr2 s2 g2 y2 => by
      cases rep_int y2
      obtain ⟨p, hp, rfl⟩ := x1.mono g2
      obtain ⟨_, xs, h2, h3⟩ := s2.sto.cell n p ps hp hm
      have hv2 : Vo I2 adr2 o v := (hv.mono g1).mono g2
      obtain ⟨s4, g4⟩ := s2.wri hp hm (Vs.set hv2 jj h3)
      exact ⟨p, xs, i, jj, rfl, rfl, h2, by rw [← h3.length]; exact hj, q _ _ _ _ s4 ((g1.trans g2).trans g4)⟩⟩
/-- target = e -/
theorem ST.asg (he : EV C e E M o M1) (hg : EG C tg o E M1 E' M') (hs : ∀ env, swapsWithSole [tg] e pos.line env = pure false := by intro _; rfl) (hw : ∀ env, swappedStores [tg] e env = pure none := by intro _; rfl) (h1 : ∀ env, (assignEach [tg] env).map (·.2) = [assign tg env] := by intro _; rfl) : ST C (.Assign [tg] e pos) E M (.nx E' M') :=
  ST.mk (fun X hX => ps_asg (ue hX e) (ug hX tg) (hs X.env) (hw X.env) (h1 X.env)) fun I H adr σ D s q => he I H adr σ _ s fun v I1 H1 adr1 s1 g1 v1 => hg I1 H1 adr1 σ v _ s1 v1 fun I2 H2 adr2 σ2 s2 g2 => q I2 H2 adr2 σ2 s2 (g1.trans g2)
theorem ST.forget {st : Stmt} (h : ST C st E M (.nx E1 M')) (f : Fg E1 E2) : ST C st E M (.nx E2 M') := fun I H adr σ D s q => h I H adr σ D s fun I1 H1 adr1 σ1 s1 g1 => q I1 H1 adr1 σ1 (s1.forget f) g1
theorem SB.forget {sts : List Stmt} (f : Fg E E1) (h : SB C sts E1 M r) : SB C sts E M r := fun I H adr σ D s q => h I H adr σ D (s.forget f) q

/-! ### what is walked -/
def Runs (J : It) (I1 H1 : Hp) (adr1 : List Addr) (n : Nat) (it : Nat → O) (inv : Mem → Prop) : Prop :=
  ∀ (I2 H2 : Hp) (adr2 : List Addr) (σ2 : L2.St) (E2 : List O) (M2 : Mem), Stt I2 H2 adr2 σ2 E2 M2 → Grow I1 H1 adr1 I2 H2 adr2 → inv M2 → J.stop n H2 ∧
    ∀ i, i < n → J.go i H2 ∧ ∀ x H3, J.yld i H2 x H3 → ∃ I3, Stt I3 H3 adr2 σ2 E2 M2 ∧ Grow I2 H2 adr2 I3 H3 adr2 ∧ Vo I3 adr2 (it i) x
def UI (C : Cc) (tg iter : Expr) : TI := fun σ H R => ∃ t : TI, (∀ X, CxIs C X → PI X tg iter t) ∧ t σ H R
theorem ui {C : Cc} {X : Cx} (h : CxIs C X) (tg iter : Expr) : PI X tg iter (UI C tg iter) := ⟨fun pins s σ H R I q => let ⟨_, p, q⟩ := q; (p X h).run pins s σ H R I q⟩
def EI (C : Cc) (tg iter : Expr) (E : List O) (M : Mem) (n : Nat) (it : Nat → O) (M1 : Mem) (inv : Mem → Prop) : Prop :=
  ∀ (I H : Hp) (adr : List Addr) (σ : L2.St) (R : It → Hp → Prop), Stt I H adr σ E M → (∀ J I1 H1 adr1, Stt I1 H1 adr1 σ E M1 → Grow I H adr I1 H1 adr1 → Runs J I1 H1 adr1 n it inv → R J H1) → UI C tg iter σ H R
abbrev tt : Mem → Prop := fun _ => True
def atO (ds : List D) (i : Nat) : O := .dat (ds.getD i .non)
theorem atO_get {ds : List D} {i : Nat} (h : i < ds.length) : ds[i]? = some (ds.getD i .non) := by
  rw [List.getD_eq_getElem?_getD, List.getElem?_eq_getElem h]
  rfl
theorem sql_uniq {K : PySem.W.Frag} {H : Hp} {p : Addr} {xs : List V} (h : H p = some (.lst xs)) : SqL K H p xs := .inl (.inl h)
theorem sqt_uniq {K : PySem.W.Frag} {H : Hp} {p : Addr} {xs : List V} (h : H p = some (.tup xs)) : SqT K H p xs := .inl (.inl h)
theorem EI.lst {ds : List D} (h : EV C iter E M (.dat (.lst ds)) M1) : EI C tg iter E M ds.length (atO ds) M1 tt := fun I H adr σ R s q =>
  ⟨iList C.g.K (UE C iter), fun X hX => by
    have := pi_list (tg := tg) (ue hX iter)
    rw [hX.K] at this
    exact this, h I H adr σ _ s fun v I1 H1 adr1 s1 g1 v1 => by
      cases (show Rep I1 (.lst ds) v from v1) with
      | @lst p xs _ hp hr =>
        refine ⟨p, rfl, ⟨xs, sql_uniq (s1.ex _ _ hp)⟩, q _ I1 H1 adr1 s1 g1 fun I2 H2 adr2 σ2 E2 M2 s2 g2 _ => ?_⟩
        have h2 : I2 p = some (.lst xs) := g2.ex _ _ hp
        have h3 : H2 p = some (.lst xs) := s2.ex _ _ h2
        refine ⟨⟨xs, sql_uniq h3, by rw [hr.length]; exact Nat.le_refl _⟩, fun i hi => ?_⟩
        obtain ⟨x, hx, hrx⟩ := hr.get (atO_get hi)
        refine ⟨⟨xs, x, sql_uniq h3, hx⟩, fun y H3 hy => ?_⟩
        obtain ⟨rfl, hy⟩ := hy
        have e : y = x := Option.some.inj ((hy xs (sql_uniq h3)).symm.trans hx)
        subst e
        exact ⟨I2, s2, Grow.refl, hrx.mono g2.ex⟩⟩
theorem EI.tup {ds : List D} (h : EV C iter E M (.dat (.tup ds)) M1) : EI C tg iter E M ds.length (atO ds) M1 tt := fun I H adr σ R s q =>
  ⟨iTup C.g.K (UE C iter), fun X hX => by
    have := pi_tup (tg := tg) (ue hX iter)
    rw [hX.K] at this
    exact this, h I H adr σ _ s fun v I1 H1 adr1 s1 g1 v1 => by
      cases (show Rep I1 (.tup ds) v from v1) with
      | @tup p xs _ hp hr =>
        refine ⟨p, rfl, ⟨xs, sqt_uniq (s1.ex _ _ hp)⟩, q _ I1 H1 adr1 s1 g1 fun I2 H2 adr2 σ2 E2 M2 s2 g2 _ => ?_⟩
        have h2 : I2 p = some (.tup xs) := g2.ex _ _ hp
        have h3 : H2 p = some (.tup xs) := s2.ex _ _ h2
        refine ⟨⟨xs, sqt_uniq h3, by rw [hr.length]; exact Nat.le_refl _⟩, fun i hi => ?_⟩
        obtain ⟨x, hx, hrx⟩ := hr.get (atO_get hi)
        refine ⟨⟨xs, x, sqt_uniq h3, hx⟩, fun y H3 hy => ?_⟩
        obtain ⟨rfl, hy⟩ := hy
        have e : y = x := Option.some.inj ((hy xs (sqt_uniq h3)).symm.trans hx)
        subst e
        exact ⟨I2, s2, Grow.refl, hrx.mono g2.ex⟩⟩
theorem EI.seq {ds : List D} (h : EV C iter E M (.dat d) M1) (hd : seqD d = some ds) : EI C tg iter E M ds.length (atO ds) M1 tt := by
  cases d <;> first | (cases hd; exact EI.tup h) | (cases hd; exact EI.lst h) | cases hd
/-- over a cell that the body leaves as it is -/
theorem EI.cell {n : Nat} {ps : List O} (h : EV C iter E M (.adr n) M1) (hm : M1[n]? = some (some ps)) : EI C tg iter E M ps.length (fun i => ps.getD i .no) M1 (fun M' => M'[n]? = some (some ps)) := fun I H adr σ R s q =>
  ⟨iList C.g.K (UE C iter), fun X hX => by
    have := pi_list (tg := tg) (ue hX iter)
    rw [hX.K] at this
    exact this, h I H adr σ _ s fun v I1 H1 adr1 s1 g1 v1 => by
      obtain ⟨p, hp, rfl⟩ := v1
      obtain ⟨_, xs, h2, h3⟩ := s1.sto.cell n p ps hp hm
      refine ⟨p, rfl, ⟨xs, sql_uniq h2⟩, q _ I1 H1 adr1 s1 g1 fun I2 H2 adr2 σ2 E2 M2 s2 g2 hinv => ?_⟩
      obtain ⟨_, ys, h4, h5⟩ := s2.sto.cell n p ps (g2.get hp) hinv
      refine ⟨⟨ys, sql_uniq h4, by rw [h5.length]; exact Nat.le_refl _⟩, fun i hi => ?_⟩
      have hget : ps[i]? = some (ps.getD i .no) := by
        rw [List.getD_eq_getElem?_getD, List.getElem?_eq_getElem hi]
        rfl
      obtain ⟨x, hx, hrx⟩ := h5.get hget
      refine ⟨⟨ys, x, sql_uniq h4, hx⟩, fun y H3 hy => ?_⟩
      obtain ⟨rfl, hy⟩ := hy
      have e : y = x := Option.some.inj ((hy ys (sql_uniq h4)).symm.trans hx)
      subst e
      exact ⟨I2, s2, Grow.refl, hrx⟩⟩
def atI0 (lo : Int) (i : Nat) : O := .dat (.int (lo + i))
theorem EI.rng1 {x : Str} (h : EV C a E M (.dat (.int j)) M1) (hm : Bt C.g "range") (hj : -(2 ^ 62) ≤ j ∧ j < 2 ^ 62) (hx : x = "range" := by rfl) (hg : C.sc.names.lookup x = some .globalImplicit := by rfl)
    (hs : ∀ env, starEach [a] env = [(false, eval a env)] := by intro _; rfl) : EI C tg (.Call (.Name x p) [a] [] pos) E M j.toNat (atI0 0) M1 tt := fun I H adr σ R s q => by
  subst hx
  refine ⟨iRng1 (tCons (UE C a) tNil), fun X hX => pi_range1 (by show X.env.scope.names.lookup _ = _; rw [hX.sc]; exact hg) (by rw [hX.mg]; exact hm) (pa_cons (ue hX a) pa_nil (hs X.env)) (hs X.env), ?_⟩
  refine h I H adr σ _ s fun v I1 H1 adr1 s1 g1 v1 => ?_
  cases rep_int v1
  refine ⟨j, rfl, hj.1, hj.2, q _ I1 H1 adr1 s1 g1 fun I2 H2 adr2 σ2 E2 M2 s2 g2 _ => ⟨Nat.le_refl _, fun i hi => ⟨hi, fun y H3 hy => ?_⟩⟩⟩
  obtain ⟨rfl, rfl⟩ := hy
  exact ⟨I2, s2, Grow.refl, .int _⟩
theorem EI.rng2 {x : Str} (h : EV C a E M (.dat (.int i)) M1) (h' : EV C b E M1 (.dat (.int j)) M2) (hm : Bt C.g "range") (hi : -(2 ^ 62) ≤ i ∧ i < 2 ^ 62) (hj : -(2 ^ 62) ≤ j ∧ j < 2 ^ 62) (hx : x = "range" := by rfl) (hg : C.sc.names.lookup x = some .globalImplicit := by rfl)
    (hs : ∀ env, starEach [a, b] env = [(false, eval a env), (false, eval b env)] := by intro _; rfl) (hs2 : ∀ env, starEach [b] env = [(false, eval b env)] := by intro _; rfl) : EI C tg (.Call (.Name x p) [a, b] [] pos) E M (j - i).toNat (atI0 i) M2 tt := fun I H adr σ R s q => by
  subst hx
  refine ⟨iRng2 (tCons (UE C a) (tCons (UE C b) tNil)), fun X hX => pi_range2 (by show X.env.scope.names.lookup _ = _; rw [hX.sc]; exact hg) (by rw [hX.mg]; exact hm) (pa_cons (ue hX a) (pa_cons (ue hX b) pa_nil (hs2 X.env)) (by rw [hs X.env, hs2 X.env])) (hs X.env) (hs2 X.env), ?_⟩
  refine h I H adr σ _ s fun v I1 H1 adr1 s1 g1 v1 => h' I1 H1 adr1 σ _ s1 fun w I2 H2 adr2 s2 g2 w2 => ?_
  cases rep_int v1
  cases rep_int w2
  refine ⟨i, j, rfl, ⟨hi.1, hi.2, hj.1, hj.2⟩, q _ I2 H2 adr2 s2 (g1.trans g2) fun I3 H3 adr3 σ3 E3 M3 s3 g3 _ => ⟨Nat.le_refl _, fun n hn => ⟨hn, fun y H4 hy => ?_⟩⟩⟩
  obtain ⟨rfl, rfl⟩ := hy
  exact ⟨I3, s3, Grow.refl, .int _⟩
def atZ (ds es : List D) (i : Nat) : O := .dat (.tup [ds.getD i .non, es.getD i .non])
theorem EI.zip {ds es : List D} {x : Str} {elts : List Expr} {kk : Nat} {tp : Pos} (h1 : EV C a E M (.dat d1) M1) (h2 : EV C b E M1 (.dat d2) M2) (hd : (d1 = .tup ds ∧ d2 = .tup es) ∨ (d1 = .lst ds ∧ d2 = .lst es)) (hm : Bt C.g "zip") (hx : x = "zip" := by rfl) (hg : C.sc.names.lookup x = some .globalImplicit := by rfl)
    (hs : ∀ env, starEach [a, b] env = (false, eval a env) :: starEach [b] env := by intro _; rfl) (hs2 : ∀ env, starEach [b] env = (false, eval b env) :: starEach [] env := by intro _; rfl) (hpl : ∀ env, (backTo pos (starEach [b] env)).any (·.1) = false := by intro _; rfl) :
    EI C (.Tuple elts kk tp) (.Call (.Name x p) [a, b] [] pos) E M (min ds.length es.length) (atZ ds es) M2 tt := fun I H adr σ R s q => by
  subst hx
  refine ⟨RZ.iZipA C.g.K (tCons (UE C a) (tCons (UE C b) tNil)), fun X hX => by
    have := RZ.pi_zipA (tpos := tp) (elts := elts) (kk := kk) (p := p) (pos := pos) (X := X) (by show X.env.scope.names.lookup _ = _; rw [hX.sc]; exact hg) (by rw [hX.mg]; exact hm) (pa_cons (ue hX a) (pa_cons (ue hX b) pa_nil (hs2 X.env)) (hs X.env)) (hs X.env) (hpl X.env)
    rw [hX.K] at this
    exact this, ?_⟩
  refine h1 I H adr σ _ s fun v I1 H1 adr1 s1 g1 v1 => h2 I1 H1 adr1 σ _ s1 fun w I2 H2 adr2 s2 g2 w2 => ?_
  have v2 := v1.mono g2
  have turn : ∀ {xs ys : List V} {I3 H3 : Hp} {adr3 : List Addr} {σ3 : L2.St} {E3 : List O} {M3 : Mem} (hr : Reps I2 ds xs) (hr' : Reps I2 es ys) (s3 : Stt I3 H3 adr3 σ3 E3 M3) (g3 : Grow I2 H2 adr2 I3 H3 adr3) (n : Nat) (hn : n < min ds.length es.length) (T : Addr) (hT : H3 T = none) (x y : V) (hx : xs[n]? = some x) (hy : ys[n]? = some y),
      ∃ I4, Stt I4 (upd H3 T (.tup [x, y])) adr3 σ3 E3 M3 ∧ Grow I3 H3 adr3 I4 (upd H3 T (.tup [x, y])) adr3 ∧ Vo I4 adr3 (atZ ds es n) (.ref T) := fun {xs ys I3 H3 adr3 σ3 E3 M3} hr hr' s3 g3 n hn T hT x y hx hy => by
    obtain ⟨x', ex, rx⟩ := hr.get (atO_get (show n < ds.length by omega))
    obtain ⟨y', ey, ry⟩ := hr'.get (atO_get (show n < es.length by omega))
    have e1 : x' = x := Option.some.inj (ex.symm.trans hx)
    have e2 : y' = y := Option.some.inj (ey.symm.trans hy)
    subst e1 e2
    obtain ⟨s4, g4, r4⟩ := s3.tup hT (.cons (rx.mono g3.ex) (.cons (ry.mono g3.ex) .nil))
    exact ⟨_, s4, g4, r4⟩
  rcases hd with ⟨rfl, rfl⟩ | ⟨rfl, rfl⟩
  · cases (show Rep I2 (.tup ds) v from v2) with
    | @tup p1 xs _ hp hr =>
      cases (show Rep I2 (.tup es) w from w2) with
      | @tup p2 ys _ hp' hr' =>
        refine ⟨p1, p2, xs, ys, rfl, .inr ⟨sqt_uniq (s2.ex _ _ hp), sqt_uniq (s2.ex _ _ hp'), q _ I2 H2 adr2 s2 (g1.trans g2) fun I3 H3 adr3 σ3 E3 M3 s3 g3 _ => ?_⟩⟩
        have a1 : SqT C.g.K H3 p1 xs := sqt_uniq (s3.ex _ _ (g3.ex _ _ hp))
        have a2 : SqT C.g.K H3 p2 ys := sqt_uniq (s3.ex _ _ (g3.ex _ _ hp'))
        have l1 := hr.length
        have l2 := hr'.length
        refine ⟨⟨xs, ys, a1, a2, by omega⟩, fun n hn => ?_⟩
        have b1 : xs[n]? = some (xs[n]'(by omega)) := List.getElem?_eq_getElem _
        have b2 : ys[n]? = some (ys[n]'(by omega)) := List.getElem?_eq_getElem _
        refine ⟨⟨xs, ys, _, _, a1, a2, b1, b2⟩, fun z H4 hz => ?_⟩
        obtain ⟨T, x, y, rfl, hT, rfl, f1, f2⟩ := hz
        exact turn hr hr' s3 g3 n hn T hT x y (f1 _ a1) (f2 _ a2)
  · cases (show Rep I2 (.lst ds) v from v2) with
    | @lst p1 xs _ hp hr =>
      cases (show Rep I2 (.lst es) w from w2) with
      | @lst p2 ys _ hp' hr' =>
        refine ⟨p1, p2, xs, ys, rfl, .inl ⟨sql_uniq (s2.ex _ _ hp), sql_uniq (s2.ex _ _ hp'), q _ I2 H2 adr2 s2 (g1.trans g2) fun I3 H3 adr3 σ3 E3 M3 s3 g3 _ => ?_⟩⟩
        have a1 : SqL C.g.K H3 p1 xs := sql_uniq (s3.ex _ _ (g3.ex _ _ hp))
        have a2 : SqL C.g.K H3 p2 ys := sql_uniq (s3.ex _ _ (g3.ex _ _ hp'))
        have l1 := hr.length
        have l2 := hr'.length
        refine ⟨⟨xs, ys, a1, a2, by omega⟩, fun n hn => ?_⟩
        have b1 : xs[n]? = some (xs[n]'(by omega)) := List.getElem?_eq_getElem _
        have b2 : ys[n]? = some (ys[n]'(by omega)) := List.getElem?_eq_getElem _
        refine ⟨⟨xs, ys, _, _, a1, a2, b1, b2⟩, fun z H4 hz => ?_⟩
        obtain ⟨T, x, y, rfl, hT, rfl, f1, f2⟩ := hz
        exact turn hr hr' s3 g3 n hn T hT x y (f1 _ a1) (f2 _ a2)

/-! ### for -/
theorem ST.for {E_ : Nat → List O} {M_ : Nat → Mem} {n m : Nat} {it : Nat → O} {inv : Mem → Prop} (hs : EI C tg iter E M n it M1 inv) (hE : Fg E (E_ 0)) (hM : M_ 0 = M1) (hm : m ≤ n) (hinv : ∀ i, i ≤ m → inv (M_ i))
    (step : ∀ i, i < m → ∃ E1 Ma E2, EG C tg (it i) (E_ i) (M_ i) E1 Ma ∧ Fg E2 (E_ (i + 1)) ∧ (SB C body E1 Ma (.nx E2 (M_ (i + 1))) ∨ SB C body E1 Ma (.ct E2 (M_ (i + 1)))))
    (last : (m = n ∧ r = .nx (E_ n) (M_ n)) ∨ (m < n ∧ ∃ E1 Ma, EG C tg (it m) (E_ m) (M_ m) E1 Ma ∧ ((∃ o M', SB C body E1 Ma (.rt o M') ∧ r = .rt o M') ∨ ∃ E' M', SB C body E1 Ma (.bk E' M') ∧ r = .nx E' M')))
    (hf : ∀ env x, foldedSetIterable iter env x = pure x := by intro _ _; rfl) : ST C (.For tg iter body [] pos) E M r := by
  subst hM
  refine ST.mk (fun X hX => ps_for hX.po hX.calm (ui hX tg iter) (ug hX tg) (ub hX body) (hf X.env)) fun I H adr σ D s q => ?_
  refine hs I H adr σ _ s fun J I1 H1 adr1 s1 g1 hr => ?_
  refine ⟨fun i μ σ' H' => i ≤ m ∧ μ = n - i ∧ ∃ I2 adr2, Stt I2 H' adr2 σ' (E_ i) (M_ i) ∧ Grow I1 H1 adr1 I2 H' adr2, ⟨n, Nat.zero_le _, by omega, I1, adr1, s1.forget hE, Grow.refl⟩, ?_⟩
  rintro i μ σ' H' ⟨hi, rfl, I2, adr2, s2, g2⟩
  obtain ⟨st, go⟩ := hr I2 H' adr2 σ' (E_ i) (M_ i) s2 g2 (hinv i hi)
  by_cases him : i < m
  · obtain ⟨Ea, Ma, Eb, hg, hfg, hb⟩ := step i him
    obtain ⟨g0, gy⟩ := go i (by omega)
    refine .inr ⟨g0, fun σ'' H'' => ∃ I3 adr3, Stt I3 H'' adr3 σ'' (E_ (i + 1)) (M_ (i + 1)) ∧ Grow I1 H1 adr1 I3 H'' adr3, fun σ'' H'' hN => ⟨n - (i + 1), by omega, by omega, rfl, hN⟩, fun x H3 hy => ?_⟩
    obtain ⟨I3, s3, g3, v3⟩ := gy x H3 hy
    refine hg I3 H3 adr2 σ' x _ s3 v3 fun I4 H4 adr4 σ4 s4 g4 => ?_
    rcases hb with hb | hb
    · exact hb I4 H4 adr4 σ4 _ s4 fun I5 H5 adr5 σ5 s5 g5 => ⟨I5, adr5, s5.forget hfg, ((g2.trans g3).trans g4).trans g5⟩
    · exact hb I4 H4 adr4 σ4 _ s4 fun I5 H5 adr5 σ5 s5 g5 => ⟨I5, adr5, s5.forget hfg, ((g2.trans g3).trans g4).trans g5⟩
  · have e : i = m := by omega
    subst e
    rcases last with ⟨hn, hr'⟩ | ⟨hn, Ea, Ma, hg, hb⟩
    · subst hn hr'
      exact .inl ⟨st, q I2 H' adr2 σ' s2 (g1.trans g2)⟩
    · obtain ⟨g0, gy⟩ := go i hn
      refine .inr ⟨g0, fun _ _ => False, fun _ _ h => h.elim, fun x H3 hy => ?_⟩
      obtain ⟨I3, s3, g3, v3⟩ := gy x H3 hy
      refine hg I3 H3 adr2 σ' x _ s3 v3 fun I4 H4 adr4 σ4 s4 g4 => ?_
      rcases hb with ⟨o, M', hb, hr'⟩ | ⟨E', M', hb, hr'⟩
      · subst hr'
        exact hb I4 H4 adr4 σ4 _ s4 fun v I5 H5 adr5 s5 g5 v5 => q v I5 H5 adr5 s5 ((((g1.trans g2).trans g3).trans g4).trans g5) v5
      · subst hr'
        exact hb I4 H4 adr4 σ4 _ s4 fun I5 H5 adr5 σ5 s5 g5 => q I5 H5 adr5 σ5 s5 ((((g1.trans g2).trans g3).trans g4).trans g5)
/-- a loop that goes through, its target one name -/
theorem ST.forN (jx : Nat) {x : Str} {E_ : Nat → List O} {M_ : Nat → Mem} {n : Nat} {it : Nat → O} {inv : Mem → Prop} (hs : EI C (.Name x p) iter E M n it M1 inv) (hE : Fg E (E_ 0)) (hM : M_ 0 = M1) (hinv : ∀ i, i ≤ n → inv (M_ i)) (nd : C.N.Nodup)
    (step : ∀ i, i < n → ∃ E2, Fg E2 (E_ (i + 1)) ∧ SB C body ((E_ i).set jx (it i)) (M_ i) (.nx E2 (M_ (i + 1))))
    (hi : C.N[jx]? = some x := by rfl) (hx : Loc C.sc x := by first | exact Or.inl rfl | exact Or.inr rfl) (hf' : C.fn x = true ∨ C.sc.names.lookup x = some .local := by first | exact .inl rfl | exact .inr rfl) (hf : ∀ env x, foldedSetIterable iter env x = pure x := by intro _ _; rfl) : ST C (.For (.Name x p) iter body [] pos) E M (.nx (E_ n) (M_ n)) :=
  ST.for hs hE hM (Nat.le_refl n) hinv (fun i h => let ⟨E2, a, b⟩ := step i h; ⟨_, _, E2, EG.nm jx nd hi hx hf', a, .inl b⟩) (.inl ⟨rfl, rfl⟩) hf

/-! ### while -/
theorem ST.while {E_ : Nat → List O} {M_ : Nat → Mem} {m : Nat} (hE : Fg E (E_ 0)) (hM : M_ 0 = M) (step : ∀ i, i < m → ∃ M1 E2, ET C c (E_ i) (M_ i) true M1 ∧ Fg E2 (E_ (i + 1)) ∧ SB C body (E_ i) M1 (.nx E2 (M_ (i + 1))))
    (last : ET C c (E_ m) (M_ m) false M') : ST C (.While c body [] pos) E M (.nx (E_ m) M') := by
  subst hM
  refine ST.mk (fun X hX => ps_while hX.po (ut hX c) (ub hX body)) fun I H adr σ D s q => ?_
  refine ⟨fun μ σ' H' => ∃ i, i ≤ m ∧ μ = m - i ∧ ∃ I2 adr2, Stt I2 H' adr2 σ' (E_ i) (M_ i) ∧ Grow I H adr I2 H' adr2, ⟨m, 0, Nat.zero_le _, by omega, I, adr, s.forget hE, Grow.refl⟩, ?_⟩
  rintro μ σ' H' ⟨i, hi, rfl, I2, adr2, s2, g2⟩
  by_cases him : i < m
  · obtain ⟨M1, E2, hc, hfg, hb⟩ := step i him
    refine hc I2 H' adr2 σ' _ s2 fun I3 H3 adr3 s3 g3 => ?_
    refine ⟨fun σ'' H'' => ∃ I4 adr4, Stt I4 H'' adr4 σ'' (E_ (i + 1)) (M_ (i + 1)) ∧ Grow I H adr I4 H'' adr4, fun σ'' H'' hN => ⟨m - (i + 1), by omega, i + 1, by omega, rfl, hN⟩, ?_⟩
    exact hb I3 H3 adr3 σ' _ s3 fun I5 H5 adr5 σ5 s5 g5 => ⟨I5, adr5, s5.forget hfg, (g2.trans g3).trans g5⟩
  · have e : i = m := by omega
    subst e
    refine last I2 H' adr2 σ' _ s2 fun I3 H3 adr3 s3 g3 => ?_
    exact q I3 H3 adr3 σ' s3 (g2.trans g3)
end
end Ab
/-! Ab: comprehensions, methods, calls. -/
namespace Ab
open PySem PySem.Spec PyProof.Rows L2
variable [TabCtx]

def Cc.blk (C : Cc) (scope : Scope) : Cc := { C with sc := relS scope C.sc, fn := fun x => scope.names.lookup x == some .cell, W := W0, cd := none }
theorem cx_blk {C : Cc} {X : Cx} (h : CxIs C X) (s : Shared) (H : Hp) (scope : Scope) (A : Addr) (cl : List (Str × Addr)) (fp : List Addr) : CxIs (C.blk scope) (X.blk s H scope (compEnvC scope cl A X.env) fp) where
  P := h.P
  w := h.w
  K := h.K
  mg := h.mg
  base := h.base
  N := h.N
  sc := by
    show relS scope X.env.scope = relS scope C.sc
    rw [h.sc]
  calm := h.calm
  room := h.room
  cd := fun _ _ z => by cases z
  fr := h.fr
  po := PassesOwn.never
  tk := takes0
  fn := fun x q => q

/-! ### own slots -/
def wipeE (E : List O) : List Nat → List O
  | [] => E
  | v :: vs => (wipeE E vs).set v .no
theorem wipe_get (σ : L2.St) : ∀ (vs : List Nat) (i : Nat), i ∉ vs → (wipe σ vs)[i]? = σ[i]?
  | [], _, _ => rfl
  | v :: vs, i, h => by
    unfold wipe
    rw [List.getElem?_set_ne (fun z => h (by rw [z]; exact List.mem_cons_self))]
    exact wipe_get σ vs i fun z => h (List.mem_cons_of_mem _ z)
theorem wipe_in (σ : L2.St) : ∀ (vs : List Nat) (i : Nat), i ∈ vs → i < σ.length → (wipe σ vs)[i]? = some none
  | [], _, h, _ => by simp at h
  | v :: vs, i, h, hl => by
    unfold wipe
    by_cases e : v = i
    · subst e
      rw [List.getElem?_set_self (by rw [wipe_length]; exact hl)]
    · rw [List.getElem?_set_ne e]
      refine wipe_in σ vs i ?_ hl
      rcases List.mem_cons.mp h with z | z
      · exact absurd z.symm e
      · exact z
theorem wipe_eq {σ σ' : L2.St} {vs : List Nat} (hl : σ'.length = σ.length) (h : ∀ (i : Nat), i ∉ vs → σ'[i]? = σ[i]?) : wipe σ' vs = wipe σ vs := by
  refine List.ext_getElem? fun i => ?_
  by_cases hi : i ∈ vs
  · by_cases hb : i < σ.length
    · rw [wipe_in σ vs i hi hb, wipe_in σ' vs i hi (by rw [hl]; exact hb)]
    · rw [List.getElem?_eq_none (by rw [wipe_length, hl]; exact Nat.le_of_not_lt hb), List.getElem?_eq_none (by rw [wipe_length]; exact Nat.le_of_not_lt hb)]
  · rw [wipe_get _ _ _ hi, wipe_get _ _ _ hi]
    exact h i hi
theorem wipeE_length (E : List O) : ∀ vs : List Nat, (wipeE E vs).length = E.length
  | [] => rfl
  | v :: vs => by unfold wipeE; rw [List.length_set, wipeE_length E vs]
theorem wipeE_get (E : List O) : ∀ (vs : List Nat) (i : Nat) (o : O), (wipeE E vs)[i]? = some o → o = .no ∨ (i ∉ vs ∧ E[i]? = some o)
  | [], _, _, h => .inr ⟨by simp, h⟩
  | v :: vs, i, o, h => by
    unfold wipeE at h
    by_cases e : v = i
    · subst e
      by_cases hb : v < (wipeE E vs).length
      · rw [List.getElem?_set_self hb] at h
        exact .inl (Option.some.inj h).symm
      · rw [List.getElem?_eq_none (by rw [List.length_set]; exact Nat.le_of_not_lt hb)] at h
        cases h
    · rw [List.getElem?_set_ne e] at h
      rcases wipeE_get E vs i o h with z | ⟨z1, z2⟩
      · exact .inl z
      · exact .inr ⟨fun q => (List.mem_cons.mp q).elim (fun q => e q.symm) z1, z2⟩
theorem Stt.wipe {I H : Hp} {adr : List Addr} {σ : L2.St} {E : List O} {M : Mem} (s : Stt I H adr σ E M) (vs : List Nat) : Stt I H adr (wipe σ vs) (wipeE E vs) M :=
  ⟨s.ex, s.sto, by rw [wipeE_length, wipe_length]; exact s.len, fun i o ov h1 h2 => by
    rcases wipeE_get E vs i o h1 with e | ⟨hi, e⟩
    · subst e
      cases ov with
      | none => rfl
      | some v => exact True.intro
    · rw [wipe_get σ vs i hi] at h2
      exact s.slot i o ov e h2⟩

/-- a target that turns the slots vs alone -/
def EGv (C : Cc) (vs : List Nat) (tg : Expr) (o : O) (E : List O) (M : Mem) (E' : List O) (M' : Mem) : Prop :=
  ∀ (I H : Hp) (adr : List Addr) (σ : L2.St) (v : V) (Q : L2.St → Hp → Prop), Stt I H adr σ E M → Vo I adr o v → (∀ I' H' adr' σ', Stt I' H' adr' σ' E' M' → Grow I H adr I' H' adr' → σ'.length = σ.length → (∀ (i : Nat), i ∉ vs → σ'[i]? = σ[i]?) → Q σ' H') → UG C tg v σ H Q
def EGvs (C : Cc) (vs : List Nat) (tgs : List Expr) (os : List O) (E : List O) (M : Mem) (E' : List O) (M' : Mem) : Prop :=
  ∀ (I H : Hp) (adr : List Addr) (σ : L2.St) (xs : List V) (Q : L2.St → Hp → Prop), Stt I H adr σ E M → Vs I adr os xs → (∀ I' H' adr' σ', Stt I' H' adr' σ' E' M' → Grow I H adr I' H' adr' → σ'.length = σ.length → (∀ (i : Nat), i ∉ vs → σ'[i]? = σ[i]?) → Q σ' H') → UGs C tgs xs σ H Q
def UP (C : Cc) (ifs : List Expr) : TT := fun σ H Q => ∃ t : TT, (∀ X, CxIs C X → PTs X ifs t) ∧ t σ H Q
theorem up {C : Cc} {X : Cx} (h : CxIs C X) (ifs : List Expr) : PTs X ifs (UP C ifs) := ⟨fun pins s σ H Q I q => let ⟨_, p, q⟩ := q; (p X h).run pins s σ H Q I q⟩
def EP (C : Cc) (ifs : List Expr) (E : List O) (M : Mem) (b : Bool) (M' : Mem) : Prop := Et (UP C ifs) E M b M'

section
variable {C : Cc} {E E1 E2 E' : List O} {M M1 M2 M3 M' : Mem} {o o1 o2 o3 : O} {os : List O} {e a b c tg iter elt : Expr} {es : List Expr} {pos pos' p : Pos} {d d1 d2 : D} {i j : Int} {k k' : Bool} {r : Out} {body : List Stmt} {vs : List Nat}
theorem EGv.nm (i : Nat) {x : Str} (nd : C.N.Nodup) (hv : i ∈ vs) (hi : C.N[i]? = some x := by rfl) (hx : Loc C.sc x := by first | exact Or.inl rfl | exact Or.inr rfl) (hf : C.fn x = true ∨ C.sc.names.lookup x = some .local := by first | exact .inl rfl | exact .inr rfl) : EGv C vs (.Name x pos) o E M (E.set i o) M :=
  fun I H adr σ v Q s hw q => ⟨gName i, fun X hX => pg_name (by rw [hX.N]; exact nd) (by rw [hX.N]; exact hi) (by rw [hX.sc]; exact hx) (hf.elim (fun z => .inl (hX.fn x z)) (fun z => .inr (by rw [hX.sc]; exact z))),
    q I H adr _ (s.set hw) Grow.refl (List.length_set) fun j hj => List.getElem?_set_ne fun z => hj (by rw [← z]; exact hv)⟩
theorem EGvs.nil : EGvs C vs [] [] E M E M := fun I H adr σ xs Q s hv q => by
  cases hv
  exact ⟨gNil, fun _ _ => pgs_nil, rfl, q I H adr σ s Grow.refl rfl fun _ _ => rfl⟩
theorem EGvs.cons (h : EGv C vs a o E M E1 M1) (hr : EGvs C vs es os E1 M1 E' M') (hs : ∀ env, (assignEach (a :: es) env).map (·.2) = assign a env :: (assignEach es env).map (·.2) := by intro _; rfl) : EGvs C vs (a :: es) (o :: os) E M E' M' :=
  fun I H adr σ xs Q s hv q => by
    cases hv with
    | @cons _ v _ xs hv hr' =>
      refine ⟨gCons (UG C a) (UGs C es), fun X hX => pgs_cons (ug hX a) (ugs hX es) (hs X.env), v, xs, rfl, ?_⟩
      exact h I H adr σ v _ s hv fun I1 H1 adr1 σ1 s1 g1 l1 f1 => hr I1 H1 adr1 σ1 xs Q s1 (Vs.mono g1 hr') fun I2 H2 adr2 σ2 s2 g2 l2 f2 => q I2 H2 adr2 σ2 s2 (g1.trans g2) (l2.trans l1) fun i hi => (f2 i hi).trans (f1 i hi)
theorem EGv.tup {ds : List D} {kk : Nat} (h : EGvs C vs es (ds.map .dat) E M E' M') (hn : ∀ env, (assignEach es env).length = ds.length := by intro _; rfl) (hst : ∀ env, (assignEach es env).findIdx? (·.1) = none := by intro _; rfl) : EGv C vs (.Tuple es kk pos) (.dat (.tup ds)) E M E' M' :=
  fun I H adr σ v Q s hv q => by
    cases (show Rep I (.tup ds) v from hv) with
    | @tup p xs _ hp hr =>
      refine ⟨gTup C.g.K ds.length (UGs C es), fun X hX => by
        have := pg_tup (pos := pos) (k := kk) hX.calm (ugs hX es) (hn X.env) (hst X.env)
        rw [hX.K] at this
        exact this, p, xs, rfl, .inl (.inl (s.ex _ _ hp)), hr.length.symm, ?_⟩
      exact h I H adr σ xs Q s (Vs.reps hr) q
theorem EP.nil : EP C [] E M true M := fun I H adr σ Q s q => ⟨tYes, fun _ _ => pts_nil, q I H adr s Grow.refl⟩
theorem EP.one (h : ET C c E M k M') : EP C [c] E M k M' := fun I H adr σ Q s q => ⟨UT C c, fun X hX => pts_one (ut hX c), h I H adr σ Q s q⟩

/-! ### comprehensions -/
structure LC (C : Cc) (elt tg iter : Expr) (ifs : List Expr) (scope : Scope) (own : List (Str × Nat)) (E : List O) (M : Mem) (o : O) (M' : Mem) : Prop where
  ok : blkC C.N C.sc scope own = true
  nd : C.N.Nodup
  hf : ∀ env x, foldedSetIterable iter env x = pure x
  run : Ev (tLc (UI C tg iter) (UG (C.blk scope) tg) (UP (C.blk scope) ifs) (UE (C.blk scope) elt) (own.map (·.2))) E M o M'
theorem LC.ev {scope : Scope} {own : List (Str × Nat)} {ifs : List Expr} (h : LC C elt tg iter ifs scope own E M o M') : EV C (.ListComp elt [⟨tg, iter, ifs, 0⟩] scope pos) E M o M' :=
  EV.mk (fun X hX => pe_lc hX.calm (by rw [hX.N]; exact h.nd) (ui hX tg iter) (by rw [hX.N, hX.sc]; exact blkOk_by h.ok) (fun s H A cl fp => ug (cx_blk hX s H scope A cl fp) tg) (fun s H A cl fp => up (cx_blk hX s H scope A cl fp) ifs) (fun s H A cl fp => ue (cx_blk hX s H scope A cl fp) elt) (h.hf X.env)) h.run
/-- a name that takes it -/
theorem LC.set (i : Nat) {scope : Scope} {own : List (Str × Nat)} {ifs : List Expr} {y : Str} {py spos : Pos} (h : LC C elt tg iter ifs scope own E M o M') (hi : C.N[i]? = some y := by rfl) (hl : C.sc.names.lookup y = some .local := by rfl)
    (hsw : ∀ env : Env, env.scope = C.sc → swapsWith (.ListComp elt [⟨tg, iter, ifs, 0⟩] scope pos) (some (.Name y py)) spos.line env = pure true) : ST C (.Assign [.Name y py] (.ListComp elt [⟨tg, iter, ifs, 0⟩] scope pos) spos) E M (.nx (E.set i o) M') :=
  ST.mk (fun X hX => ps_setLc hX.calm (by rw [hX.N]; exact h.nd) (by rw [hX.N]; exact hi) (by rw [hX.sc]; exact hl) (hsw X.env hX.sc) (ui hX tg iter) (by rw [hX.N, hX.sc]; exact blkOk_by h.ok) (fun s H A cl fp => ug (cx_blk hX s H scope A cl fp) tg) (fun s H A cl fp => up (cx_blk hX s H scope A cl fp) ifs) (fun s H A cl fp => ue (cx_blk hX s H scope A cl fp) elt) (h.hf X.env))
    fun I H adr σ D s q => h.run I H adr σ _ s fun v I1 H1 adr1 s1 g1 v1 => q I1 H1 adr1 _ (s1.set v1) g1
theorem LC.froz {scope : Scope} {own : List (Str × Nat)} {ifs : List Expr} {n : Nat} {ds : List D} (h : LC C elt tg iter ifs scope own E M (.adr n) (M' ++ [some (ds.map .dat)])) (hfr : ∀ {t : TE}, Ev t E M (.adr n) (M' ++ [some (ds.map .dat)]) → Ev t E M (.dat (.lst ds)) M') : LC C elt tg iter ifs scope own E M (.dat (.lst ds)) M' := ⟨h.ok, h.nd, h.hf, hfr h.run⟩
theorem LC.gen {scope : Scope} {own : List (Str × Nat)} {ifs : List Expr} {n : Nat} {it : Nat → O} {inv : Mem → Prop} {A : Nat → Mem} {acc : Nat → List O} (ok : blkC C.N C.sc scope own = true) (nd : C.N.Nodup) (hs : EI C tg iter E M n it M1 inv)
    (hA : A 0 = M1 ++ [some []]) (ha : acc 0 = []) (hinv : ∀ i, i ≤ n → inv (A i))
    (step : ∀ i, i < n → ∃ Ex Ma b Mb, EGv (C.blk scope) (own.map (·.2)) tg (it i) (wipeE E (own.map (·.2))) (A i) Ex Ma ∧ EP (C.blk scope) ifs Ex Ma b Mb ∧
      ((b = true ∧ ∃ o Mc, EV (C.blk scope) elt Ex Mb o Mc ∧ Mc[M1.length]? = some (some (acc i)) ∧ (acc i).length < 100000 ∧ A (i + 1) = Mc.set M1.length (some (acc i ++ [o])) ∧ acc (i + 1) = acc i ++ [o]) ∨
       (b = false ∧ A (i + 1) = Mb ∧ acc (i + 1) = acc i)))
    (hf : ∀ env x, foldedSetIterable iter env x = pure x := by intro _ _; rfl) : LC C elt tg iter ifs scope own E M (.adr M1.length) (A n) := by
  refine ⟨ok, nd, hf, fun I H adr σ Q s q => ?_⟩
  · refine hs I H adr σ _ s fun J I1 H1 adr1 s1 g1 hr Dl hD => ?_
    obtain ⟨s2, g2, atD⟩ := s1.cel hD (os := []) .nil
    rw [← hA] at s2
    refine ⟨fun i μ H' => i ≤ n ∧ μ = n - i ∧ ∃ I3 adr3, Stt I3 H' adr3 σ E (A i) ∧ Grow I1 (upd H1 Dl (.lst [])) (adr1 ++ [Dl]) I3 H' adr3, ⟨n, Nat.zero_le _, by omega, I1, _, s2, Grow.refl⟩, ?_⟩
    rintro i μ H3 ⟨hi, rfl, I3, adr3, s3, g3⟩
    obtain ⟨st, go⟩ := hr I3 H3 adr3 σ E (A i) s3 (g2.trans g3) (hinv i hi)
    by_cases him : i < n
    · obtain ⟨Ea, Ma, b, Mb, hg, hp, hb⟩ := step i him
      obtain ⟨g0, gy⟩ := go i him
      refine .inr ⟨g0, fun H'' => ∃ I4 adr4, Stt I4 H'' adr4 σ E (A (i + 1)) ∧ Grow I1 (upd H1 Dl (.lst [])) (adr1 ++ [Dl]) I4 H'' adr4, fun H'' hN => ⟨n - (i + 1), by omega, by omega, rfl, hN⟩, fun x H4 hy => ?_⟩
      obtain ⟨I4, s4, g4, v4⟩ := gy x H4 hy
      refine hg I4 H4 adr3 _ x _ (s4.wipe _) v4 fun I5 H5 adr5 σ5 s5 g5 l5 f5 => ⟨?_, ?_⟩
      · rw [wipe_eq l5 f5]
        exact wipe_eq (wipe_length _ _) fun i hi => wipe_get _ _ _ hi
      · refine hp I5 H5 adr5 σ5 _ s5 fun I6 H6 adr6 s6 g6 => ?_
        rcases hb with ⟨rfl, o, Mc, he, hc, hz, hA1, ha1⟩ | ⟨rfl, hA1, ha1⟩
        · rw [if_pos rfl]
          refine he I6 H6 adr6 σ5 _ s6 fun y I7 H7 adr7 s7 g7 y7 => ?_
          have gAll := (((g3.trans g4).trans g5).trans g6).trans g7
          have hD7 : adr7[M1.length]? = some Dl := gAll.get atD
          obtain ⟨_, xs, hx1, hx2⟩ := s7.sto.cell M1.length Dl (acc i) hD7 hc
          have hlen := hx2.length
          refine ⟨xs, hx1, by rw [← hlen]; exact sz_lt hz, ?_⟩
          obtain ⟨s8, g8⟩ := s7.wri hD7 hc (Vs.app hx2 (.cons y7 .nil))
          rw [← hA1] at s8
          exact ⟨I7, adr7, s3.mono ((((g4.trans g5).trans g6).trans g7).trans g8) s8.ex s8.sto, gAll.trans g8⟩
        · rw [if_neg Bool.false_ne_true]
          have gAll := ((g3.trans g4).trans g5).trans g6
          rw [← hA1] at s6
          exact ⟨I6, adr6, s3.mono ((g4.trans g5).trans g6) s6.ex s6.sto, gAll⟩
    · have e : i = n := by omega
      subst e
      exact .inl ⟨st, q _ I3 H3 adr3 s3 ((g1.trans g2).trans g3) ⟨Dl, g3.get atD, rfl⟩⟩

/-- no cell's content leans on newer cells -/
def OkM (M M' : Mem) : Prop := ∀ (k : Nat) (os : List O), M'[k]? = some (some os) → M[k]? = some (some os) ∨ ∃ ds : List D, os = ds.map .dat
theorem OkM.refl : OkM M M := fun _ _ h => .inl h
theorem OkM.nil : OkM M [] := fun _ _ h => by simp at h
theorem OkM.dat {c : Option (List O)} {ds : List D} (h : OkM M M') : OkM (c :: M) (some (ds.map .dat) :: M') := fun k os q => by
  cases k with
  | zero => exact .inr ⟨ds, (Option.some.inj (Option.some.inj q)).symm⟩
  | succ k => exact h k os q
theorem OkM.same {c : Option (List O)} (h : OkM M M') : OkM (c :: M) (c :: M') := fun k os q => by
  cases k with
  | zero => exact .inl q
  | succ k => exact h k os q
theorem low_vs {I : Hp} {adr adr' : List Addr} {n : Nat} (h : ∀ (k : Nat) (a : Addr), adr[k]? = some a → adr'[k]? = some a) : ∀ {os : List O} {xs : List V}, Vs I adr os xs → ∃ vs : List V, True
  | _, _, _ => ⟨[], True.intro⟩
/-- contents that are valid ahead of a growth lean on no newer cell -/
theorem vo_low {I I' : Hp} {adr adr' : List Addr} {v w : V} : ∀ {o : O}, Vo I adr o v → Vo I' adr' o w → (∀ (k : Nat) (a : Addr), adr[k]? = some a → adr'[k]? = some a) → Vo I' adr o w
  | .no, _, _, _ => True.intro
  | .dat _, _, h, _ => h
  | .scr _ _, _, h, _ => h
  | .obj _ fs, h, h', f => by
    obtain ⟨p, dx, gs, h1, h2, h3⟩ := h
    obtain ⟨p', dx', gs', q1, q2, q3⟩ := h'
    refine ⟨p', dx', gs', q1, q2, prImp q3 fun x hx g' z => ⟨z.1, ?_⟩⟩
    obtain ⟨g0, _, a0, e0, _⟩ := prLeft h3 x hx
    obtain ⟨a, e1, e2⟩ := z.2
    have e3 := f _ _ e0
    rw [e1] at e3
    cases e3
    exact ⟨_, e0, e2⟩
  | .adr k, h, h', f => by
    obtain ⟨a, h1, _⟩ := h
    obtain ⟨a', h2, h3⟩ := h'
    rw [f k a h1] at h2
    cases h2
    exact ⟨a, h1, h3⟩
theorem vs_low {I I' : Hp} {adr adr' : List Addr} (f : ∀ (k : Nat) (a : Addr), adr[k]? = some a → adr'[k]? = some a) : ∀ {os : List O} {xs ys : List V}, Vs I adr os xs → Vs I' adr' os ys → Vs I' adr os ys
  | _, _, _, .nil, .nil => .nil
  | _, _, _, .cons h r, .cons h' r' => .cons (vo_low h h' f) (vs_low f r r')
theorem Ev.froz {t : TE} {n : Nat} {ds : List D} (h : Ev t E M (.adr n) (M' ++ [some (ds.map .dat)])) (hn : n = M'.length) (hl : M.length ≤ M'.length) (ok : OkM M M') : Ev t E M (.dat (.lst ds)) M' := fun I H adr σ Q s q => by
  refine h I H adr σ Q s fun v I1 H1 adr1 s1 g1 v1 => ?_
  obtain ⟨p, hp, rfl⟩ := v1
  obtain ⟨nw, rfl, fr⟩ := g1.new
  have hlen := s1.sto.len
  rw [List.length_append, List.length_append, List.length_singleton] at hlen
  have hl0 := s.sto.len
  have hcell : (M' ++ [some (ds.map O.dat)])[n]? = some (some (ds.map .dat)) := by
    rw [hn, List.getElem?_append_right (Nat.le_refl _), Nat.sub_self]
    rfl
  obtain ⟨hi, xs, hx1, hx2⟩ := s1.sto.cell n p _ hp hcell
  have hne : nw ≠ [] := fun z => by
    subst z
    simp at hlen
    omega
  -- the last address is p
  have hnw : nw = nw.dropLast ++ [p] := by
    have e1 : (adr ++ nw)[n]? = nw[nw.length - 1]? := by
      rw [List.getElem?_append_right (by omega)]
      congr 1
      omega
    rw [hp] at e1
    have e2 : nw.getLast hne = p := by
      rw [List.getLast_eq_getElem]
      have := (List.getElem?_eq_some_iff.mp e1.symm).2
      exact this
    rw [← e2]
    exact (List.dropLast_concat_getLast hne).symm
  have hdl : (adr ++ nw) = (adr ++ nw.dropLast) ++ [p] := by
    rw [List.append_assoc, ← hnw]
  have hlen2 : (adr ++ nw.dropLast).length = M'.length := by
    rw [List.length_append, List.length_dropLast]
    have : nw.length ≠ 0 := fun z => hne (List.eq_nil_of_length_eq_zero z)
    omega
  have sub : ∀ (k : Nat) (a : Addr), (adr ++ nw.dropLast)[k]? = some a → (adr ++ nw)[k]? = some a := fun k a hk => by
    rw [hdl, List.getElem?_append_left (List.getElem?_eq_some_iff.mp hk).1]
    exact hk
  have sub0 : ∀ (k : Nat) (a : Addr), adr[k]? = some a → (adr ++ nw)[k]? = some a := fun k a hk => by
    rw [List.getElem?_append_left (List.getElem?_eq_some_iff.mp hk).1]
    exact hk
  have ndp : p ∉ adr ++ nw.dropLast := by
    have nd1 := s1.sto.nd
    rw [hdl, List.nodup_append] at nd1
    intro z
    exact nd1.2.2 p z p (by simp) rfl
  have pin : p ∈ nw := by
    rw [hnw]
    simp
  have ex1 : Ex I1 (upd I1 p (.lst xs)) := Ex.new hi
  have ex2 : Ex (upd I1 p (.lst xs)) H1 := fun a u z => by
    by_cases e : a = p
    · subst e
      rw [upd_same] at z
      cases z
      exact hx1
    · rw [upd_ne e] at z
      exact s1.ex a u z
  have g2 : Grow I H adr (upd I1 p (.lst xs)) H1 (adr ++ nw.dropLast) := by
    refine ⟨g1.ex.trans ex1, ⟨nw.dropLast, rfl, fun a ha => fr a ((List.dropLast_sublist nw).subset ha)⟩, g1.keep, g1.dom, fun a u h1 n h2 h3 => ?_, g1.code⟩
    have : a ≠ p := fun z => by
      rw [z] at h1
      exact fr p pin u h1 n
    rw [upd_ne this]
    exact g1.out a u h1 n h2 h3
  have sto2 : Sto (upd I1 p (.lst xs)) H1 (adr ++ nw.dropLast) M' := by
    refine ⟨hlen2, ?_, fun k a os h1 h2 => ?_, fun k a h1 => s1.sto.dom k a (sub k a h1), s1.sto.amb.same fun b u h => ?_⟩
    · have nd1 := s1.sto.nd
      rw [hdl, List.nodup_append] at nd1
      exact nd1.1
    · have hk : k < M'.length := (List.getElem?_eq_some_iff.mp h2).1
      have h3 : (M' ++ [some (ds.map O.dat)])[k]? = some (some os) := by
        rw [List.getElem?_append_left hk]
        exact h2
      obtain ⟨c1, ys, c2, c3⟩ := s1.sto.cell k a os (sub k a h1) h3
      have na : a ≠ p := fun z => ndp (by rw [← z]; exact List.mem_of_getElem? h1)
      refine ⟨by rw [upd_ne na]; exact c1, ys, c2, Vs.ext ex1 ?_⟩
      rcases ok k os h2 with hm | ⟨es, rfl⟩
      · have hk2 : k < adr.length := by
          rw [hl0]
          exact (List.getElem?_eq_some_iff.mp hm).1
        obtain ⟨_, zs, _, z3⟩ := s.sto.cell k adr[k] os (List.getElem?_eq_getElem hk2) hm
        exact (vs_low sub0 z3 c3).more
      · exact Vs.reps c3.to
    · by_cases e : b = p
      · subst e
        rw [upd_same] at h
        cases h
        exact NT.lst
      · rw [upd_ne e] at h
        exact s1.sto.amb.nt b u h
  exact q _ _ H1 _ (s.mono g2 ex2 sto2) g2 (.lst upd_same (hx2.to.mono ex1))
end
end Ab
/-! Ab: the forms one uses. -/
namespace Ab
open PySem PySem.Spec PyProof.Rows L2
variable [TabCtx]
section
variable {C : Cc} {E E1 E2 E' : List O} {M M1 M2 M3 M' : Mem} {o o1 o2 o3 : O} {os : List O} {e a b c tg iter elt : Expr} {es : List Expr} {pos pos' p apos : Pos} {d d1 d2 : D} {i j : Int} {k k' : Bool} {r : Out} {body : List Stmt} {vs : List Nat} {scope : Scope} {own : List (Str × Nat)} {ifs : List Expr} {x : Str}

/-! ### comprehensions -/
theorem getE_append {α : Type} {l : List α} {x : α} : (l ++ [x])[l.length]? = some x := by
  rw [List.getElem?_append_right (Nat.le_refl _), Nat.sub_self]
  rfl
theorem set_append {α : Type} {l : List α} {x y : α} : (l ++ [x]).set l.length y = l ++ [y] := by
  rw [List.set_append_right _ _ (Nat.le_refl _), Nat.sub_self]
  rfl
/-- pure elements, the list a cell -/
theorem LC.lPC {n : Nat} {it : Nat → O} {inv : Mem → Prop} {v : Nat → D} {f : Nat → Bool} (ok : blkC C.N C.sc scope own = true) (nd : C.N.Nodup) (hs : EI C tg iter E M n it M1 inv) (hinv : ∀ c, inv (M1 ++ [c])) (hn : n < 100000)
    (step : ∀ i, i < n → ∃ Ex, (∀ M, EGv (C.blk scope) (own.map (·.2)) tg (it i) (wipeE E (own.map (·.2))) M Ex M) ∧ (∀ M, EP (C.blk scope) ifs Ex M (f i) M) ∧ (f i = true → ∀ M, EV (C.blk scope) elt Ex M (.dat (v i)) M))
    (hf : ∀ env x, foldedSetIterable iter env x = pure x := by intro _ _; rfl) : LC C elt tg iter ifs scope own E M (.adr M1.length) (M1 ++ [some ((((List.range n).filter f).map v).map .dat)]) := by
  refine LC.gen (A := fun i => M1 ++ [some ((((List.range i).filter f).map v).map .dat)]) (acc := fun i => (((List.range i).filter f).map v).map .dat) ok nd hs rfl rfl (fun i _ => hinv _) (fun i hi => ?_) hf
  obtain ⟨Ex, h1, h2, h3⟩ := step i hi
  refine ⟨Ex, _, f i, _, h1 _, h2 _, ?_⟩
  cases hb : f i with
  | true =>
    refine .inl ⟨rfl, .dat (v i), _, h3 hb _, getE_append, ?_, ?_, ?_⟩
    · rw [List.length_map, List.length_map]
      have := List.length_filter_le f (List.range i)
      rw [List.length_range] at this
      omega
    · show M1 ++ [some ((((List.range (i + 1)).filter f).map v).map O.dat)] = _
      rw [set_append, List.range_succ, List.filter_append, List.map_append, List.map_append, List.filter_cons, if_pos hb]
      rfl
    · show (((List.range (i + 1)).filter f).map v).map O.dat = _
      rw [List.range_succ, List.filter_append, List.map_append, List.map_append, List.filter_cons, if_pos hb]
      rfl
  | false =>
    have e : (((List.range (i + 1)).filter f).map v).map O.dat = (((List.range i).filter f).map v).map O.dat := by
      rw [List.range_succ, List.filter_append, List.map_append, List.map_append, List.filter_cons, if_neg (by rw [hb]; decide)]
      exact List.append_nil _
    refine .inr ⟨rfl, ?_, ?_⟩
    · show M1 ++ [some ((((List.range (i + 1)).filter f).map v).map O.dat)] = _
      rw [e]
    · exact e
theorem LC.lPF {n : Nat} {it : Nat → O} {inv : Mem → Prop} {v : Nat → D} {f : Nat → Bool} (ok : blkC C.N C.sc scope own = true) (nd : C.N.Nodup) (hs : EI C tg iter E M n it M1 inv) (hinv : ∀ c, inv (M1 ++ [c])) (hn : n < 100000) (hl : M.length ≤ M1.length) (hok : OkM M M1)
    (step : ∀ i, i < n → ∃ Ex, (∀ M, EGv (C.blk scope) (own.map (·.2)) tg (it i) (wipeE E (own.map (·.2))) M Ex M) ∧ (∀ M, EP (C.blk scope) ifs Ex M (f i) M) ∧ (f i = true → ∀ M, EV (C.blk scope) elt Ex M (.dat (v i)) M))
    (hf : ∀ env x, foldedSetIterable iter env x = pure x := by intro _ _; rfl) : LC C elt tg iter ifs scope own E M (.dat (.lst (((List.range n).filter f).map v))) M1 :=
  LC.froz (LC.lPC ok nd hs hinv hn step hf) fun h => Ev.froz h rfl hl hok
/-- elements that turn cells -/
theorem LC.lSC {n : Nat} {it : Nat → O} {inv : Mem → Prop} {v : Nat → D} {M_ : Nat → Mem} (ok : blkC C.N C.sc scope own = true) (nd : C.N.Nodup) (hs : EI C tg iter E M n it M1 inv) (h0 : M_ 0 = M1) (hlen : ∀ i, i ≤ n → (M_ i).length = M1.length) (hinv : ∀ i, i ≤ n → ∀ c, inv (M_ i ++ [c])) (hn : n < 100000)
    (step : ∀ i, i < n → ∃ Ex, (∀ M, EGv (C.blk scope) (own.map (·.2)) tg (it i) (wipeE E (own.map (·.2))) M Ex M) ∧ ∀ c, EV (C.blk scope) elt Ex (M_ i ++ [c]) (.dat (v i)) (M_ (i + 1) ++ [c]))
    (hf : ∀ env x, foldedSetIterable iter env x = pure x := by intro _ _; rfl) : LC C elt tg iter [] scope own E M (.adr M1.length) (M_ n ++ [some (((List.range n).map v).map .dat)]) := by
  refine LC.gen (A := fun i => M_ i ++ [some (((List.range i).map v).map .dat)]) (acc := fun i => ((List.range i).map v).map .dat) ok nd hs (by rw [h0]; rfl) rfl (fun i hi => hinv i hi _) (fun i hi => ?_) hf
  obtain ⟨Ex, h1, h3⟩ := step i hi
  refine ⟨Ex, _, true, _, h1 _, EP.nil, .inl ⟨rfl, .dat (v i), _, h3 _, ?_, ?_, ?_, ?_⟩⟩
  · rw [← hlen (i + 1) hi]
    exact getE_append
  · rw [List.length_map, List.length_map, List.length_range]
    omega
  · show M_ (i + 1) ++ [some (((List.range (i + 1)).map v).map O.dat)] = _
    rw [← hlen (i + 1) hi, set_append, List.range_succ, List.map_append, List.map_append]
    rfl
  · show ((List.range (i + 1)).map v).map O.dat = _
    rw [List.range_succ, List.map_append, List.map_append]
    rfl
theorem LC.lS {n : Nat} {it : Nat → O} {inv : Mem → Prop} {v : Nat → D} {M_ : Nat → Mem} (ok : blkC C.N C.sc scope own = true) (nd : C.N.Nodup) (hs : EI C tg iter E M n it M1 inv) (h0 : M_ 0 = M1) (hlen : ∀ i, i ≤ n → (M_ i).length = M1.length) (hinv : ∀ i, i ≤ n → ∀ c, inv (M_ i ++ [c])) (hn : n < 100000) (hl : M.length ≤ M1.length) (hok : OkM M (M_ n))
    (step : ∀ i, i < n → ∃ Ex, (∀ M, EGv (C.blk scope) (own.map (·.2)) tg (it i) (wipeE E (own.map (·.2))) M Ex M) ∧ ∀ c, EV (C.blk scope) elt Ex (M_ i ++ [c]) (.dat (v i)) (M_ (i + 1) ++ [c]))
    (hf : ∀ env x, foldedSetIterable iter env x = pure x := by intro _ _; rfl) : LC C elt tg iter [] scope own E M (.dat (.lst ((List.range n).map v))) (M_ n) :=
  LC.froz (LC.lSC ok nd hs h0 hlen hinv hn step hf) fun h => Ev.froz h (hlen n (Nat.le_refl n)).symm (by rw [hlen n (Nat.le_refl n)]; exact hl) hok
theorem range_getD {α : Type} (d0 : α) : ∀ (xs : List α), (List.range xs.length).map (fun i => xs.getD i d0) = xs := fun xs => by
  refine List.ext_getElem? fun i => ?_
  rw [List.getElem?_map]
  by_cases hi : i < xs.length
  · rw [List.getElem?_range hi, List.getElem?_eq_getElem hi]
    show some (xs.getD i d0) = _
    rw [List.getD_eq_getElem?_getD, List.getElem?_eq_getElem hi]
    rfl
  · rw [List.getElem?_eq_none (by rw [List.length_range]; exact Nat.le_of_not_lt hi), List.getElem?_eq_none (Nat.le_of_not_lt hi)]
    rfl
theorem atO_map {α : Type} {f : α → D} {xs : List α} {i : Nat} (h : i < xs.length) : atO (xs.map f) i = .dat (f xs[i]) := by
  unfold atO
  rw [List.getD_eq_getElem?_getD, List.getElem?_map, List.getElem?_eq_getElem h]
  rfl
/-- [elt for x in xs], xs a list or tuple of the f of some α -/
theorem LC.lM {α : Type} (jx : Nat) {xs : List α} {f g : α → D} (ok : blkC C.N C.sc scope own = true) (nd : C.N.Nodup) (ho : own.map (·.2) = [jx]) (h : EV C iter E M (.dat d) M1) (hd : seqD d = some (xs.map f)) (hl : M.length ≤ M1.length) (hok : OkM M M1) (hz : xs.length < 100000)
    (step : ∀ y ∈ xs, ∀ M, EV (C.blk scope) elt ((wipeE E [jx]).set jx (.dat (f y))) M (.dat (g y)) M) (hi : C.N[jx]? = some x := by rfl) (hx : Loc (C.blk scope).sc x := by first | exact Or.inl rfl | exact Or.inr rfl) (hf' : (C.blk scope).fn x = true ∨ (C.blk scope).sc.names.lookup x = some .local := by first | exact .inl rfl | exact .inr rfl)
    (hf : ∀ env x, foldedSetIterable iter env x = pure x := by intro _ _; rfl) : LC C elt (.Name x p) iter [] scope own E M (.dat (.lst (xs.map g))) M1 := by
  have hlen : (xs.map f).length = xs.length := List.length_map _
  have key := LC.lPF (tg := .Name x p) (elt := elt) (ifs := []) (scope := scope) (own := own) (n := (xs.map f).length) (v := fun i => (xs.map g).getD i .non) (f := fun _ => true) ok nd (EI.seq h hd) (fun _ => True.intro) (by omega) hl hok (fun i hi' => by
    rw [hlen] at hi'
    refine ⟨_, fun M => EGv.nm jx nd (by rw [ho]; simp) hi hx hf', fun M => EP.nil, fun _ M => ?_⟩
    rw [ho, atO_map hi']
    have e : (xs.map g).getD i .non = g xs[i] := by
      rw [List.getD_eq_getElem?_getD, List.getElem?_map, List.getElem?_eq_getElem hi']
      rfl
    rw [e]
    exact step _ (List.getElem_mem hi') M) hf
  have e2 : ((List.range (xs.map f).length).filter fun _ => true).map (fun i => (xs.map g).getD i D.non) = xs.map g := by
    rw [List.filter_eq_self.mpr (fun _ _ => rfl), hlen, ← List.length_map g]
    exact range_getD _ _
  rw [e2] at key
  exact key
theorem filt_getD {α β : Type} (d0 : β) (t : α → Bool) (g : α → β) : ∀ xs : List α, ((List.range xs.length).filter fun i => (xs.map t).getD i false).map (fun i => (xs.map g).getD i d0) = (xs.filter t).map g
  | [] => rfl
  | y :: r => by
    have ih := filt_getD d0 t g r
    have e3 : ((fun i => ((y :: r).map t).getD i false) ∘ Nat.succ) = fun i => (r.map t).getD i false := by
      funext i
      simp [List.getD_eq_getElem?_getD]
    have e4 : ((fun i => ((y :: r).map g).getD i d0) ∘ Nat.succ) = fun i => (r.map g).getD i d0 := by
      funext i
      simp [List.getD_eq_getElem?_getD]
    rw [List.length_cons, List.range_succ_eq_map, List.filter_cons, List.filter_map, e3]
    have e5 : ((y :: r).map t).getD 0 false = t y := by simp [List.getD_eq_getElem?_getD]
    have e6 : ((y :: r).map g).getD 0 d0 = g y := by simp [List.getD_eq_getElem?_getD]
    rw [e5, List.filter_cons]
    by_cases hy : t y = true
    · rw [if_pos hy, if_pos hy]
      simp only [List.map_cons, List.map_map]
      rw [show (fun i => (List.map g (y :: r)).getD i d0) = fun i => (List.map g (y :: r)).getD i d0 from rfl] at *
      rw [← List.map_cons (f := g), e6, e4, ih]
    · rw [if_neg hy, if_neg hy, List.map_map, e4, ih]
/-- .. with a test -/
theorem LC.lMF {α : Type} (jx : Nat) {xs : List α} {f g : α → D} {t : α → Bool} (ok : blkC C.N C.sc scope own = true) (nd : C.N.Nodup) (ho : own.map (·.2) = [jx]) (h : EV C iter E M (.dat d) M1) (hd : seqD d = some (xs.map f)) (hl : M.length ≤ M1.length) (hok : OkM M M1) (hz : xs.length < 100000)
    (ht : ∀ y ∈ xs, ∀ M, ET (C.blk scope) c ((wipeE E [jx]).set jx (.dat (f y))) M (t y) M)
    (step : ∀ y ∈ xs, t y = true → ∀ M, EV (C.blk scope) elt ((wipeE E [jx]).set jx (.dat (f y))) M (.dat (g y)) M) (hi : C.N[jx]? = some x := by rfl) (hx : Loc (C.blk scope).sc x := by first | exact Or.inl rfl | exact Or.inr rfl) (hf' : (C.blk scope).fn x = true ∨ (C.blk scope).sc.names.lookup x = some .local := by first | exact .inl rfl | exact .inr rfl)
    (hf : ∀ env x, foldedSetIterable iter env x = pure x := by intro _ _; rfl) : LC C elt (.Name x p) iter [c] scope own E M (.dat (.lst ((xs.filter t).map g))) M1 := by
  have hlen : (xs.map f).length = xs.length := List.length_map _
  have key := LC.lPF (tg := .Name x p) (elt := elt) (ifs := [c]) (scope := scope) (own := own) (n := (xs.map f).length) (v := fun i => (xs.map g).getD i .non) (f := fun i => (xs.map t).getD i false) ok nd (EI.seq h hd) (fun _ => True.intro) (by omega) hl hok (fun i hi' => by
    rw [hlen] at hi'
    have e0 : (xs.map t).getD i false = t xs[i] := by
      rw [List.getD_eq_getElem?_getD, List.getElem?_map, List.getElem?_eq_getElem hi']
      rfl
    refine ⟨_, fun M => EGv.nm jx nd (by rw [ho]; simp) hi hx hf', fun M => ?_, fun hb M => ?_⟩
    · rw [ho, atO_map hi', e0]
      exact EP.one (ht _ (List.getElem_mem hi') M)
    · rw [ho, atO_map hi']
      have e : (xs.map g).getD i .non = g xs[i] := by
        rw [List.getD_eq_getElem?_getD, List.getElem?_map, List.getElem?_eq_getElem hi']
        rfl
      rw [e]
      rw [e0] at hb
      exact step _ (List.getElem_mem hi') hb M) hf
  have e2 : ((List.range (xs.map f).length).filter fun i => (xs.map t).getD i false).map (fun i => (xs.map g).getD i D.non) = (xs.filter t).map g := by
    rw [hlen]
    exact filt_getD _ _ _ _
  rw [e2] at key
  exact key
theorem atI0_eq {n : Nat} : atI0 0 n = .dat (.int (n : Int)) := by
  unfold atI0
  rw [Int.zero_add]
/-- [elt for x in range(j)] -/
theorem LC.lR (jx : Nat) {y : Str} {q : Pos} {qs : Pos} {g : Nat → D} (ok : blkC C.N C.sc scope own = true) (nd : C.N.Nodup) (ho : own.map (·.2) = [jx]) (h : EV C a E M (.dat (.int j)) M1) (hm : Bt C.g "range") (hl : M.length ≤ M1.length) (hok : OkM M M1) (hz : j < 100000 ∧ -100000 < j)
    (step : ∀ i, i < j.toNat → ∀ M, EV (C.blk scope) elt ((wipeE E [jx]).set jx (.dat (.int (i : Int)))) M (.dat (g i)) M) (hy : y = "range" := by rfl) (hg : C.sc.names.lookup y = some .globalImplicit := by rfl) (hs : ∀ env, starEach [a] env = [(false, eval a env)] := by intro _; rfl)
    (hi : C.N[jx]? = some x := by rfl) (hx : Loc (C.blk scope).sc x := by first | exact Or.inl rfl | exact Or.inr rfl) (hf' : (C.blk scope).fn x = true ∨ (C.blk scope).sc.names.lookup x = some .local := by first | exact .inl rfl | exact .inr rfl)
    (hf : ∀ env x, foldedSetIterable (.Call (.Name y q) [a] [] qs) env x = pure x := by intro _ _; rfl) : LC C elt (.Name x p) (.Call (.Name y q) [a] [] qs) [] scope own E M (.dat (.lst ((List.range j.toNat).map g))) M1 := by
  have key := LC.lPF (tg := .Name x p) (elt := elt) (ifs := []) (scope := scope) (own := own) (n := j.toNat) (v := g) (f := fun _ => true) ok nd (EI.rng1 (x := y) (p := q) (pos := qs) h hm (by omega) hy hg hs) (fun _ => True.intro) (by omega) hl hok (fun i hi' => by
    refine ⟨_, fun M => EGv.nm jx nd (by rw [ho]; simp) hi hx hf', fun M => EP.nil, fun _ M => ?_⟩
    rw [ho, atI0_eq]
    exact step i hi' M) hf
  rw [List.filter_eq_self.mpr (fun _ _ => rfl)] at key
  exact key
/-- [elt for x in range(j)], each element turns cells; the list a datum -/
theorem LC.lRS (jx : Nat) {y : Str} {q : Pos} {qs : Pos} {v : Nat → D} {M_ : Nat → Mem} (ok : blkC C.N C.sc scope own = true) (nd : C.N.Nodup) (ho : own.map (·.2) = [jx]) (h : EV C a E M (.dat (.int j)) M1) (hm : Bt C.g "range") (h0 : M_ 0 = M1) (hlen : ∀ i, i ≤ j.toNat → (M_ i).length = M1.length) (hl : M.length ≤ M1.length) (hok : OkM M (M_ j.toNat)) (hz : j < 100000 ∧ -100000 < j)
    (step : ∀ i, i < j.toNat → ∀ c, EV (C.blk scope) elt ((wipeE E [jx]).set jx (.dat (.int (i : Int)))) (M_ i ++ [c]) (.dat (v i)) (M_ (i + 1) ++ [c])) (hy : y = "range" := by rfl) (hg : C.sc.names.lookup y = some .globalImplicit := by rfl) (hs : ∀ env, starEach [a] env = [(false, eval a env)] := by intro _; rfl)
    (hi : C.N[jx]? = some x := by rfl) (hx : Loc (C.blk scope).sc x := by first | exact Or.inl rfl | exact Or.inr rfl) (hf' : (C.blk scope).fn x = true ∨ (C.blk scope).sc.names.lookup x = some .local := by first | exact .inl rfl | exact .inr rfl)
    (hf : ∀ env x, foldedSetIterable (.Call (.Name y q) [a] [] qs) env x = pure x := by intro _ _; rfl) : LC C elt (.Name x p) (.Call (.Name y q) [a] [] qs) [] scope own E M (.dat (.lst ((List.range j.toNat).map v))) (M_ j.toNat) :=
  LC.lS ok nd (EI.rng1 (x := y) (p := q) (pos := qs) h hm (by omega) hy hg hs) h0 hlen (fun _ _ _ => True.intro) (by omega) hl hok (fun i hi' => ⟨_, fun M => EGv.nm jx nd (by rw [ho]; simp) hi hx hf', fun c => by
    rw [ho, atI0_eq]
    exact step i hi' c⟩) hf
/-- .. a cell -/
theorem LC.lRSC (jx : Nat) {y : Str} {q : Pos} {qs : Pos} {v : Nat → D} {M_ : Nat → Mem} (ok : blkC C.N C.sc scope own = true) (nd : C.N.Nodup) (ho : own.map (·.2) = [jx]) (h : EV C a E M (.dat (.int j)) M1) (hm : Bt C.g "range") (h0 : M_ 0 = M1) (hlen : ∀ i, i ≤ j.toNat → (M_ i).length = M1.length) (hz : j < 100000 ∧ -100000 < j)
    (step : ∀ i, i < j.toNat → ∀ c, EV (C.blk scope) elt ((wipeE E [jx]).set jx (.dat (.int (i : Int)))) (M_ i ++ [c]) (.dat (v i)) (M_ (i + 1) ++ [c])) (hy : y = "range" := by rfl) (hg : C.sc.names.lookup y = some .globalImplicit := by rfl) (hs : ∀ env, starEach [a] env = [(false, eval a env)] := by intro _; rfl)
    (hi : C.N[jx]? = some x := by rfl) (hx : Loc (C.blk scope).sc x := by first | exact Or.inl rfl | exact Or.inr rfl) (hf' : (C.blk scope).fn x = true ∨ (C.blk scope).sc.names.lookup x = some .local := by first | exact .inl rfl | exact .inr rfl)
    (hf : ∀ env x, foldedSetIterable (.Call (.Name y q) [a] [] qs) env x = pure x := by intro _ _; rfl) : LC C elt (.Name x p) (.Call (.Name y q) [a] [] qs) [] scope own E M (.adr M1.length) (M_ j.toNat ++ [some (((List.range j.toNat).map v).map .dat)]) :=
  LC.lSC ok nd (EI.rng1 (x := y) (p := q) (pos := qs) h hm (by omega) hy hg hs) h0 hlen (fun _ _ _ => True.intro) (by omega) (fun i hi' => ⟨_, fun M => EGv.nm jx nd (by rw [ho]; simp) hi hx hf', fun c => by
    rw [ho, atI0_eq]
    exact step i hi' c⟩) hf
/-- [elt for x, y in zip(xs, ys)] -/
theorem LC.lZ {α β : Type} (jx jy : Nat) {y z : Str} {q qs q1 q2 : Pos} {kk : Nat} {xs : List α} {ys : List β} {f1 : α → D} {f2 : β → D} {g : α → β → D} (ok : blkC C.N C.sc scope own = true) (nd : C.N.Nodup) (ho : own.map (·.2) = [jx, jy])
    (h1 : EV C a E M (.dat d1) M1) (h2 : EV C b E M1 (.dat d2) M2) (hd : (d1 = .tup (xs.map f1) ∧ d2 = .tup (ys.map f2)) ∨ (d1 = .lst (xs.map f1) ∧ d2 = .lst (ys.map f2))) (hm : Bt C.g "zip") (hl : M.length ≤ M2.length) (hok : OkM M M2) (hz : xs.length < 100000)
    (step : ∀ u ∈ xs, ∀ v ∈ ys, ∀ M, EV (C.blk scope) elt (((wipeE E [jx, jy]).set jx (.dat (f1 u))).set jy (.dat (f2 v))) M (.dat (g u v)) M)
    (hy : z = "zip" := by rfl) (hg : C.sc.names.lookup z = some .globalImplicit := by rfl) (hs : ∀ env, starEach [a, b] env = (false, eval a env) :: starEach [b] env := by intro _; rfl) (hs2 : ∀ env, starEach [b] env = (false, eval b env) :: starEach [] env := by intro _; rfl) (hpl : ∀ env, (backTo qs (starEach [b] env)).any (·.1) = false := by intro _; rfl)
    (hi : C.N[jx]? = some x := by rfl) (hi' : C.N[jy]? = some y := by rfl) (hx : Loc (C.blk scope).sc x := by first | exact Or.inl rfl | exact Or.inr rfl) (hx' : Loc (C.blk scope).sc y := by first | exact Or.inl rfl | exact Or.inr rfl)
    (hf' : (C.blk scope).fn x = true ∨ (C.blk scope).sc.names.lookup x = some .local := by first | exact .inl rfl | exact .inr rfl) (hf'' : (C.blk scope).fn y = true ∨ (C.blk scope).sc.names.lookup y = some .local := by first | exact .inl rfl | exact .inr rfl)
    (hf : ∀ env x, foldedSetIterable (.Call (.Name z q) [a, b] [] qs) env x = pure x := by intro _ _; rfl) : LC C elt (.Tuple [.Name x q1, .Name y q2] kk p) (.Call (.Name z q) [a, b] [] qs) [] scope own E M (.dat (.lst ((xs.zip ys).map fun u => g u.1 u.2))) M2 := by
  have hlen : min (xs.map f1).length (ys.map f2).length = (xs.zip ys).length := by rw [List.length_map, List.length_map, List.length_zip]
  have hle : (xs.zip ys).length ≤ xs.length := by rw [List.length_zip]; omega
  have key := LC.lPF (tg := .Tuple [.Name x q1, .Name y q2] kk p) (elt := elt) (ifs := []) (scope := scope) (own := own) (v := fun i => ((xs.zip ys).map fun u => g u.1 u.2).getD i .non) (f := fun _ => true) ok nd (EI.zip (p := q) (pos := qs) (elts := [.Name x q1, .Name y q2]) (kk := kk) (tp := p) h1 h2 hd hm hy hg hs hs2 hpl) (fun _ => True.intro) (by omega) hl hok (fun i hlt => by
    rw [hlen] at hlt
    have l1 : i < xs.length := by rw [List.length_zip] at hlt; omega
    have l2 : i < ys.length := by rw [List.length_zip] at hlt; omega
    refine ⟨((wipeE E (own.map (·.2))).set jx (.dat (f1 xs[i]))).set jy (.dat (f2 ys[i])), fun M => ?_, fun M => EP.nil, fun _ M => ?_⟩
    · have ez : atZ (xs.map f1) (ys.map f2) i = .dat (.tup [f1 xs[i], f2 ys[i]]) := by
        unfold atZ
        rw [List.getD_eq_getElem?_getD, List.getD_eq_getElem?_getD, List.getElem?_map, List.getElem?_map, List.getElem?_eq_getElem l1, List.getElem?_eq_getElem l2]
        rfl
      rw [ez]
      exact EGv.tup (EGvs.cons (EGv.nm jx nd (by rw [ho]; simp) hi hx hf') (EGvs.cons (EGv.nm jy nd (by rw [ho]; simp) hi' hx' hf'') EGvs.nil))
    · have e : ((xs.zip ys).map fun u => g u.1 u.2).getD i .non = g xs[i] ys[i] := by
        rw [List.getD_eq_getElem?_getD, List.getElem?_map, List.getElem?_eq_getElem hlt, List.getElem_zip]
        rfl
      rw [e, ho]
      exact step _ (List.getElem_mem l1) _ (List.getElem_mem l2) M) hf
  have e2 : ((List.range (min (xs.map f1).length (ys.map f2).length)).filter fun _ => true).map (fun i => ((xs.zip ys).map fun u => g u.1 u.2).getD i D.non) = (xs.zip ys).map fun u => g u.1 u.2 := by
    rw [List.filter_eq_self.mpr (fun _ _ => rfl), hlen, ← List.length_map (fun u : α × β => g u.1 u.2)]
    exact range_getD _ _
  rw [e2] at key
  exact key

/-! ### methods of cells -/
theorem EV.append {n : Nat} {ps ps1 : List O} (ho : EV C a E M (.adr n) M1) (hv : EV C b E M1 o M2) (hm1 : M1[n]? = some (some ps1)) (hm : M2[n]? = some (some ps)) (hz : ps.length < 100000)
    (hbase : ∀ env, attributeBase a "append" env (eval a env) = eval a env := by intro _; rfl)
    (hfew : ∀ env, ((backTo pos (starEach [b] env)).all (fun x => !x.1) && (backToKw pos (keywordEach [] env)).all (fun x => x.1.isSome) && decide ([b].length + ([] : List Keyword).length + (if ([] : List Keyword).isEmpty then 0 else 1) < 30)) = true := by intro _; rfl)
    (hline : (apos.endLine == pos.line) = true := by rfl) (hs : ∀ env, starEach [b] env = (false, eval b env) :: starEach [] env := by intro _; rfl) : EV C (.Call (.Attribute a "append" apos) [b] [] pos) E M (.dat .non) (M2.set n (some (ps ++ [o]))) :=
  EV.mk (t := tBM C.g.K "list" rAppend (UE C a) (tCons (UE C b) tNil)) (fun X hX => by
    have := pe_bm (apos := apos) (cpos := pos) PySem.F.plainAttrs_list PySem.F.slot_list_append PySem.F.type_list_append mt_append (ue hX a) (pa_cons (ue hX b) pa_nil (hs X.env)) (hbase X.env) (hfew X.env) hline (hs X.env) rfl
    rw [hX.K] at this
    exact this) fun I H adr σ Q s q => ho I H adr σ _ s fun v I1 H1 adr1 s1 g1 v1 => by
      obtain ⟨p, hp, rfl⟩ := v1
      obtain ⟨_, xs1, hx1, _⟩ := s1.sto.cell n p ps1 hp hm1
      refine ⟨.inl ⟨rfl, xs1, sql_uniq hx1⟩, hv I1 H1 adr1 σ _ s1 fun w I2 H2 adr2 s2 g2 w2 => ?_⟩
      obtain ⟨_, xs, hx, hr⟩ := s2.sto.cell n p ps (g2.get hp) hm
      obtain ⟨s3, g3⟩ := s2.wri (g2.get hp) hm (Vs.app hr (.cons w2 .nil))
      exact ⟨p, xs, w, rfl, rfl, hx, by rw [← hr.length]; exact sz_lt hz, q _ I2 _ adr2 s3 ((g1.trans g2).trans g3) .non⟩
theorem EV.pop {n : Nat} {ps : List O} (ho : EV C a E M (.adr n) M1) (hm : M1[n]? = some (some ps)) (hl : ps[ps.length - 1]? = some o)
    (hbase : ∀ env, attributeBase a "pop" env (eval a env) = eval a env := by intro _; rfl) (hline : (apos.endLine == pos.line) = true := by rfl) : EV C (.Call (.Attribute a "pop" apos) [] [] pos) E M o (M1.set n (some ps.dropLast)) :=
  EV.mk (t := tBM0 C.g.K "list" rPop (UE C a)) (fun X hX => by
    have := pe_bm0 (apos := apos) (cpos := pos) PySem.F.plainAttrs_list PySem.F.slot_list_pop PySem.F.type_list_pop mt_pop (ue hX a) (hbase X.env) hline
    rw [hX.K] at this
    exact this) fun I H adr σ Q s q => ho I H adr σ _ s fun v I1 H1 adr1 s1 g1 v1 => by
      obtain ⟨p, hp, rfl⟩ := v1
      obtain ⟨_, xs, hx, hr⟩ := s1.sto.cell n p ps hp hm
      obtain ⟨y, hy, vy⟩ := hr.get hl
      obtain ⟨s3, g3⟩ := s1.wri hp hm (Vs.dropLast hr)
      exact ⟨.inl ⟨rfl, xs, sql_uniq hx⟩, p, xs, y, rfl, rfl, hx, by rw [← hr.length]; exact hy, q _ I1 _ adr1 s3 (g1.trans g3) (Vo.mono g3 vy)⟩

/-! ### is, on bools -/
theorem CS.isB : CS C .Is (.dat (.bl k)) (.dat (.bl k')) M (.dat (.bl (decide (k = k')))) M := ⟨_, fun X _ => op_is_bl, fun I H adr σ E v w Q s hv hw q => by
  cases rep_bl hv
  cases rep_bl hw
  exact ⟨k, k', rfl, rfl, q _ I H adr s Grow.refl (.bl _)⟩⟩
theorem CS.isnotB : CS C .IsNot (.dat (.bl k)) (.dat (.bl k')) M (.dat (.bl (!decide (k = k')))) M := ⟨_, fun X _ => op_isnot_bl, fun I H adr σ E v w Q s hv hw q => by
  cases rep_bl hv
  cases rep_bl hw
  exact ⟨k, k', rfl, rfl, q _ I H adr s Grow.refl (.bl _)⟩⟩

/-! ### calls of defs -/
theorem EV.callG {R : Rel} {kf : Nat} {os0 : List O} {o0 : O} {M0 M0' : Mem} {ι : List Nat} (F : FN C.g x kf R) (ha : EA C (e :: es) E M os M1) (hR : R os0 M0 o0 M0') (ho : os = os0.map (·.ren (rho ι M1.length))) (mx : Mix ι M1 M0 M0' M2) (hk : Nat.ble kf C.k = true := by rfl)
    (hg : C.sc.names.lookup x = some .globalImplicit := by rfl) (hdb : (x == ("__debug__" : Str)) = false := by decide) (he : ∀ env, starEach (e :: es) env = (false, eval e env) :: starEach es env := by intro _; rfl) (hpl : ∀ env, (backTo pos (starEach es env)).any (·.1) = false := by intro _; rfl) :
    EV C (.Call (.Name x p) (e :: es) [] pos) E M (o0.ren (rho ι M1.length)) M2 := by
  obtain ⟨f, fd, ps, F, hm, hkp, hb⟩ := F
  refine EV.mk (t := tCall (spR R) [] E0 (UA C (e :: es))) (fun X hX => ?_) (ev_call ha hR ho mx)
  refine pe_call (k := kf) (f := f) (fd := fd) (ps := ps) (by rw [hX.P, hX.w, hX.K, hX.mg, hX.base]; exact F) (hX.room.mono (Nat.le_of_ble_eq_true hk)) (by show X.env.scope.names.lookup x = _; rw [hX.sc]; exact hg) (by rw [hX.mg]; exact hm) (by rw [hX.K]; exact hkp) (by rw [hX.K]; exact hb) .nil pass0 (ua hX _) hdb (he X.env) (hpl X.env)
theorem mix0 : Mix [] M [] [] M := ⟨rfl, List.nodup_nil, rfl, fun i k h => by simp at h, fun k os h => .inl ⟨by simp, h⟩⟩
theorem ren_dat {ρ : Nat → Nat} : ∀ ds : List D, (ds.map O.dat).map (·.ren ρ) = ds.map O.dat
  | [] => rfl
  | d :: ds => by
    show O.dat d :: _ = O.dat d :: _
    rw [ren_dat ds]
theorem mix1 {n : Nat} {ds ds' : List D} (h : M[n]? = some (some (ds.map .dat))) : Mix [n] M [some (ds.map .dat)] [some (ds'.map .dat)] (M.set n (some (ds'.map .dat))) := by
  refine ⟨rfl, by simp, by simp, fun i k hk => ?_, fun k os hk => ?_⟩
  · have hi : i = 0 := by
      have := (List.getElem?_eq_some_iff.mp hk).1
      simp at this
      exact this
    subst hi
    have : n = k := by simpa using hk
    subst this
    rw [h]
    show _ = some (some ((ds.map O.dat).map _))
    rw [ren_dat]
  · by_cases hn : k = n
    · subst hn
      rw [List.getElem?_set_self (List.getElem?_eq_some_iff.mp h).1] at hk
      refine .inr ⟨0, ds'.map .dat, rfl, .inl (by simp), rfl, ?_⟩
      rw [ren_dat]
      exact (Option.some.inj (Option.some.inj hk)).symm
    · rw [List.getElem?_set_ne (fun z => hn z.symm)] at hk
      exact .inl ⟨by simpa using hn, hk⟩
theorem mixN {ds : List D} : Mix [] M [] [some (ds.map .dat)] (M ++ [some (ds.map .dat)]) := by
  refine ⟨rfl, List.nodup_nil, by simp, fun i k h => by simp at h, fun k os hk => ?_⟩
  by_cases hn : k < M.length
  · rw [List.getElem?_append_left hn] at hk
    exact .inl ⟨by simp, hk⟩
  · rw [List.getElem?_append_right (Nat.le_of_not_lt hn)] at hk
    have h0 : k - M.length = 0 := by
      have := (List.getElem?_eq_some_iff.mp hk).1
      simp at this
      omega
    rw [h0] at hk
    refine .inr ⟨0, ds.map .dat, ?_, .inr (Nat.le_refl _), rfl, ?_⟩
    · show M.length + (0 - 0) = k
      omega
    · rw [ren_dat]
      exact (Option.some.inj (Option.some.inj hk)).symm
theorem mix1N {n : Nat} {ds ds' es : List D} (h : M[n]? = some (some (ds.map .dat))) : Mix [n] M [some (ds.map .dat)] [some (ds'.map .dat), some (es.map .dat)] (M.set n (some (ds'.map .dat)) ++ [some (es.map .dat)]) := by
  refine ⟨rfl, by simp, by simp, fun i k hk => ?_, fun k os hk => ?_⟩
  · have hi : i = 0 := by
      have := (List.getElem?_eq_some_iff.mp hk).1
      simp at this
      exact this
    subst hi
    have : n = k := by simpa using hk
    subst this
    rw [h]
    show _ = some (some ((ds.map O.dat).map _))
    rw [ren_dat]
  · have hnl : n < M.length := (List.getElem?_eq_some_iff.mp h).1
    by_cases hlt : k < M.length
    · rw [List.getElem?_append_left (by rw [List.length_set]; exact hlt)] at hk
      by_cases hn : k = n
      · subst hn
        rw [List.getElem?_set_self hnl] at hk
        refine .inr ⟨0, ds'.map .dat, rfl, .inl (by simp), rfl, ?_⟩
        rw [ren_dat]
        exact (Option.some.inj (Option.some.inj hk)).symm
      · rw [List.getElem?_set_ne (fun z => hn z.symm)] at hk
        exact .inl ⟨by simpa using hn, hk⟩
    · rw [List.getElem?_append_right (by rw [List.length_set]; exact Nat.le_of_not_lt hlt), List.length_set] at hk
      have h0 : k - M.length = 0 := by
        have := (List.getElem?_eq_some_iff.mp hk).1
        simp at this
        omega
      rw [h0] at hk
      refine .inr ⟨1, es.map .dat, ?_, .inr (by simp), rfl, ?_⟩
      · show M.length + (1 - 1) = k
        omega
      · rw [ren_dat]
        exact (Option.some.inj (Option.some.inj hk)).symm
/-- a def of data alone -/
theorem EV.call {R : Rel} {kf : Nat} {ds : List D} (F : FN C.g x kf R) (ha : EA C (e :: es) E M (ds.map .dat) M1) (hR : R (ds.map .dat) [] (.dat d) []) (hk : Nat.ble kf C.k = true := by rfl)
    (hg : C.sc.names.lookup x = some .globalImplicit := by rfl) (hdb : (x == ("__debug__" : Str)) = false := by decide) (he : ∀ env, starEach (e :: es) env = (false, eval e env) :: starEach es env := by intro _; rfl) (hpl : ∀ env, (backTo pos (starEach es env)).any (·.1) = false := by intro _; rfl) :
    EV C (.Call (.Name x p) (e :: es) [] pos) E M (.dat d) M1 := EV.callG (ι := []) F ha hR (by rw [ren_dat]) mix0 hk hg hdb he hpl
/-- .. that hands back a new list -/
theorem EV.callN {R : Rel} {kf : Nat} {ds fs : List D} (F : FN C.g x kf R) (ha : EA C (e :: es) E M (ds.map .dat) M1) (hR : R (ds.map .dat) [] (.adr 0) [some (fs.map .dat)]) (hk : Nat.ble kf C.k = true := by rfl)
    (hg : C.sc.names.lookup x = some .globalImplicit := by rfl) (hdb : (x == ("__debug__" : Str)) = false := by decide) (he : ∀ env, starEach (e :: es) env = (false, eval e env) :: starEach es env := by intro _; rfl) (hpl : ∀ env, (backTo pos (starEach es env)).any (·.1) = false := by intro _; rfl) :
    EV C (.Call (.Name x p) (e :: es) [] pos) E M (.adr M1.length) (M1 ++ [some (fs.map .dat)]) := EV.callG (ι := []) F ha hR (by rw [ren_dat]) mixN hk hg hdb he hpl
/-- a def that turns one list, lent first -/
theorem EV.call1 {R : Rel} {kf n : Nat} {ds cs cs' : List D} (F : FN C.g x kf R) (ha : EA C (e :: es) E M (.adr n :: ds.map .dat) M1) (hc : M1[n]? = some (some (cs.map .dat))) (hR : R (.adr 0 :: ds.map .dat) [some (cs.map .dat)] (.dat d) [some (cs'.map .dat)]) (hk : Nat.ble kf C.k = true := by rfl)
    (hg : C.sc.names.lookup x = some .globalImplicit := by rfl) (hdb : (x == ("__debug__" : Str)) = false := by decide) (he : ∀ env, starEach (e :: es) env = (false, eval e env) :: starEach es env := by intro _; rfl) (hpl : ∀ env, (backTo pos (starEach es env)).any (·.1) = false := by intro _; rfl) :
    EV C (.Call (.Name x p) (e :: es) [] pos) E M (.dat d) (M1.set n (some (cs'.map .dat))) := EV.callG (ι := [n]) F ha hR (by show _ = O.adr n :: _; rw [ren_dat]) (mix1 hc) hk hg hdb he hpl
theorem EV.call1N {R : Rel} {kf n : Nat} {ds cs cs' fs : List D} (F : FN C.g x kf R) (ha : EA C (e :: es) E M (.adr n :: ds.map .dat) M1) (hc : M1[n]? = some (some (cs.map .dat))) (hR : R (.adr 0 :: ds.map .dat) [some (cs.map .dat)] (.adr 1) [some (cs'.map .dat), some (fs.map .dat)]) (hk : Nat.ble kf C.k = true := by rfl)
    (hg : C.sc.names.lookup x = some .globalImplicit := by rfl) (hdb : (x == ("__debug__" : Str)) = false := by decide) (he : ∀ env, starEach (e :: es) env = (false, eval e env) :: starEach es env := by intro _; rfl) (hpl : ∀ env, (backTo pos (starEach es env)).any (·.1) = false := by intro _; rfl) :
    EV C (.Call (.Name x p) (e :: es) [] pos) E M (.adr M1.length) (M1.set n (some (cs'.map .dat)) ++ [some (fs.map .dat)]) := EV.callG (ι := [n]) F ha hR (by show _ = O.adr n :: _; rw [ren_dat]) (mix1N hc) hk hg hdb he hpl
end
end Ab
/-! Ab: list(reversed(xs)). -/
namespace AbRev
open PySem PySem.W PySem.Calls PyProof.Rows PySem.Spec RT
section
variable {prog : Program} {w : World} {A : Around} {E : Value → Shared → Prop} {s : Shared}
theorem extend_rev {R : Result → Shared → Prop} {it l : Addr} {items : Array Value} (hh : A.handled = none) (hit : s.heap.IsRevIter it l ((items.size : Int) - 1)) (hl : s.heap.IsList l items) (hne : l ≠ it) (hn : items.size ≤ sizeLine) (S : Addr) (res : Value) (c₀ : Nat) (hS : s.heap.get? S = some { cls := .type "list", data := .seq #[] c₀ }) (hSi : S ≠ it) (hSl : S ≠ l)
    (hR : ∀ h' tk acc' c', (∀ b o, b ≠ S → b ≠ it → s.heap.get? b = some o → h'.get? b = some o) → h'.get? S = some { cls := .type "list", dict := none, data := .seq acc' c', slots := #[] } →
      ItemsOf (fun i v => items[items.size - 1 - i]? = some v) acc' items.size → R (.ok (.ret res)) { s with heap := h', toks := tk }) :
    wpAny (model prog w) A.in1 (Builtin.List.listExtendWith (.ref S) (.ref it) res)
      (fun fin s' => match fin with | .done f => R (.ok f) s' | .again c' => c'.quiet = true ∧ codeAny (model prog w) A c' R s') (fun e s' => R (.error e) s') s := by
  have W := (Walks.listRev (prog := prog) (w := w) (A := A.in1) hh it l hne items).toS
  have hSf : S ∉ [it, l] := by simp only [List.mem_cons, List.not_mem_nil, or_false, not_or]; exact ⟨hSi, hSl⟩
  have hT : s.TypeIs (.ref it) "list_reverseiterator" := Heap.IsRevIter.typeIs hit
  have h1 : Builtin.List.listSameRef (.ref S) (.ref it) = false := by simp [Builtin.List.listSameRef, hSi]
  unfold Builtin.List.listExtendWith
  refine wpAny_bind (wpAny_typeOf hT ?_)
  rw [if_neg (by rw [h1]; decide)]
  refine wpAny_bind (wpAny_pyIter_revIter hit ?_)
  refine wpAny_bind (wpAny_holding ?_)
  unfold Builtin.List.listLengthHint
  refine wpAny_bind (wpAny_specialOf hT nolen_lri ?_)
  show wpAny _ A.in1 (specialOf (Value.ref it) (Str.ofString "__length_hint__") >>= _) _ _ _
  refine wpAny_bind (wpAny_specialOf hT hint_lri ?_)
  generalize hid : ("list_reverseiterator.__length_hint__" : String) = id0
  wp_delta
  rw [show splitId id0 = some ("list_reverseiterator", "__length_hint__") from by subst hid; decide +kernel]
  subst hid
  refine wpAny_bind (wpAny_isInstance (b := true) hT (by rw [isSubtype_type]; kernel_rfl) ?_)
  refine wpAny_pure ?_
  rw [if_neg (by decide)]
  have e0 : ((items.size : Nat) : Int) - 1 - ((0 : Nat) : Int) = (items.size : Int) - 1 := by omega
  refine wpAny_pure ⟨plainId_quiet F.plain_extend_loop _, codeAny_extend_loopS W hn S hSf _ items.size 0 _ #[] c₀ rfl (Nat.zero_le _) ⟨Nat.zero_le _, by rw [e0]; exact hit, hl⟩ hS (ItemsOf.nil _) fun s' acc' c' hm hS' hacc => ?_⟩
  rw [Moved.eq_with hm]
  refine hR s'.heap s'.toks acc' c' (fun b o hb hb2 e => hm.heap b o (fun hmem => ?_) e) hS' hacc
  rcases List.mem_cons.mp hmem with e' | hmem
  · exact hb e'
  · exact hb2 (List.mem_singleton.mp hmem)
theorem list_init_rev {R : Result → Shared → Prop} {it l : Addr} {items : Array Value} (hh : A.handled = none) (hit : s.heap.IsRevIter it l ((items.size : Int) - 1)) (hl : s.heap.IsList l items) (hne : l ≠ it) (hn : items.size ≤ sizeLine) (S : Addr) (hS : s.heap.get? S = some { cls := .type "list", data := .seq #[] }) (hSi : S ≠ it) (hSl : S ≠ l)
    (hR : ∀ h' tk acc' c', (∀ b o, b ≠ S → b ≠ it → s.heap.get? b = some o → h'.get? b = some o) → h'.get? S = some { cls := .type "list", dict := none, data := .seq acc' c', slots := #[] } →
      ItemsOf (fun i v => items[items.size - 1 - i]? = some v) acc' items.size → R (.ok (.ret .none)) { s with heap := h', toks := tk }) :
    wpAny (model prog w) A.in1 (Builtin.«list.__init__» ⟨[.ref S, .ref it], []⟩)
      (fun fin s' => match fin with | .done f => R (.ok f) s' | .again c' => c'.quiet = true ∧ codeAny (model prog w) A c' R s') (fun e s' => R (.error e) s') s := by
  show wpAny _ _ (do let old ← Builtin.List.listItems (.ref S); Builtin.List.listUpdate (.ref S) (fun _ => #[]); letGo old.toList.reverse; Builtin.List.listExtendWith (.ref S) (.ref it) .none) _ _ s
  refine wpAny_bind ?_
  unfold Builtin.List.listItems
  refine wpAny_bind (wpAny_seqItems hS rfl (wpAny_pure ?_))
  show wpAny _ _ (updateSeq S (fun _ => #[]) >>= fun _ => letGo (#[] : Array Value).toList.reverse >>= fun _ => Builtin.List.listExtendWith (.ref S) (.ref it) .none) _ _ s
  refine wpAny_bind (wpAny_updateSeq hS rfl ?_)
  have hS₂ := Heap.get?_update_self (Obj.mapSeq (fun _ => (#[] : Array Value))) hS rfl
  have oth : ∀ b o, b ≠ S → s.heap.get? b = some o → (s.heap.update S (Obj.mapSeq (fun _ => (#[] : Array Value)))).get? b = some o :=
    fun b o hb e => (Heap.get?_update_other _ _ (Ne.symm hb)).trans e
  refine wpAny_bind (wpAny_letGo ?_)
  refine extend_rev hh (hit.at fun o e => oth it o (Ne.symm hSi) e) (hl.at fun o e => oth l o (Ne.symm hSl) e) hne hn S .none _ hS₂ hSi hSl fun h' tk acc' c' hk hS' hacc => ?_
  exact hR h' tk acc' c' (fun b o hb hb2 e => hk b o hb hb2 (oth b o hb e)) hS' hacc
theorem call_list_rev {it l : Addr} {items : Array Value} {Q : Value → Shared → Prop} (hh : A.handled = none) (hit : s.heap.IsRevIter it l ((items.size : Int) - 1)) (hl : s.heap.IsList l items) (hne : l ≠ it) (hn : items.size ≤ sizeLine)
    (hQ : ∀ h' tk acc' c', (∀ b o, b ≠ it → s.heap.get? b = some o → h'.get? b = some o) →
      h'.get? s.heap.objs.size = some { cls := .type "list", dict := none, data := .seq acc' c', slots := #[] } → ItemsOf (fun i v => items[items.size - 1 - i]? = some v) acc' items.size → Q (.ref s.heap.objs.size) { s with heap := h', toks := tk }) :
    wpAny (model prog w) A (call (.type "list") [.ref it]) Q E s := by
  refine callType_codes (Q₁ := fun obj s₁ => obj = .ref s.heap.objs.size ∧ s₁ = { s with heap := s.heap.push { cls := .type "list", data := .seq #[] } }) F.called_list (F.typeCall_list_1 _) F.entry_list_init
    (code_list_new _ ⟨rfl, rfl⟩) fun obj s₁ h₁ => ?_
  obtain ⟨rfl, rfl⟩ := h₁
  obtain ⟨oi, hoi, _⟩ := id hit
  obtain ⟨ol, hol, _⟩ := id hl
  have hS : (s.heap.push { cls := .type "list", data := .seq #[] }).get? s.heap.objs.size = some { cls := .type "list", data := .seq #[] } := Heap.get?_push_size _ rfl
  refine ⟨⟨_, hS, rfl⟩, F.args_list_init_2 _ _, list_init_rev (A := A.in1) (s := { s with heap := s.heap.push { cls := .type "list", data := .seq #[] } }) hh (hit.at fun o e => Heap.get?_push_of_some _ e) (hl.push _) hne hn _ hS (Nat.ne_of_gt (Heap.lt_size hoi)) (Nat.ne_of_gt (Heap.lt_size hol)) fun h' tk acc' c' hk hS' hacc => ?_⟩
  exact ⟨rfl, hQ h' tk acc' c' (fun b o hb e => hk b o (Nat.ne_of_lt (Heap.lt_size e)) hb (Heap.get?_push_of_some _ e)) hS' hacc⟩
end
end AbRev

namespace Ab
open PySem PySem.Spec PyProof.Rows L2
variable [TabCtx]
def tListRev (K : PySem.W.Frag) (te : TE) : TE := fun σ H Q => te σ H fun v H1 => ∃ (a : Addr) (xs : List V), v = .ref a ∧ SqL K H1 a xs ∧ ∀ q, H1 q = none → Q (.ref q) (upd H1 q (.lst xs.reverse))
theorem pe_listRev {X : Cx} {e : Expr} {te : TE} {p p2 pos pos2 : Pos} (hc : X.calm = true) (hg : Gl X "list") (hm : X.mg "list" = none) (hg2 : Gl X "reversed") (hm2 : X.mg "reversed" = none) (he : PE X e te)
    (hs : starEach [e] X.env = (false, eval e X.env) :: starEach [] X.env := by rfl)
    (hs2 : starEach [.Call (.Name "reversed" p2) [e] [] pos2] X.env = (false, eval (.Call (.Name "reversed" p2) [e] [] pos2) X.env) :: starEach [] X.env := by rfl) :
    PE X (.Call (.Name "list" p) [.Call (.Name "reversed" p2) [e] [] pos2] [] pos) (tListRev X.K te) := by
  refine ⟨fun pins s σ H Q I h => ?_⟩
  refine Call_ (ld_blt I hg hm (by decide +kernel : bootBuiltins "list" = some (.type "list")) (PyProof.Rows.callWith_type1 (args_cons (Call_ (ld_blt I hg2 hm2 PyProof.Rows.boot_reversed (PyProof.Rows.callWith_type1 (args_cons (thn (he.run pins s σ H _ I h) fun u s1 ⟨v, H1, I1, r1, q1⟩ => args_nil ?_) hs) hs rfl))) hs2) hs2 rfl))
  obtain ⟨a, xs, ev, hq, q⟩ := q1
  subst ev
  obtain rfl : u = Value.ref a := r1
  obtain ⟨its, rv, p', hz⟩ := I1.list hq
  refine call_reversed_list p'.isList (args_nil ?_)
  have k0 : ∀ b o, s1.heap.get? b = some o → (s1.heap.push (revObj a ((its.toArray.size : Int) - 1))).get? b = some o := fun b o e => Heap.get?_push_of_some _ e
  have I2 : Inv X pins σ H1 { s1 with heap := s1.heap.push (revObj a ((its.toArray.size : Int) - 1)) } := I1.kept (t' := s1.toks) k0
  have hf := I1.fpOk (H' := H1) (b := s1.heap.objs.size) (Nat.le_refl _) (I1.hok.fresh (Nat.le_refl _))
  have hl := p'.isList
  obtain ⟨ol, hol, _⟩ := id hl
  have hne : a ≠ s1.heap.objs.size := Nat.ne_of_lt (Heap.lt_size hol)
  have hn : its.toArray.size ≤ sizeLine := by rw [List.size_toArray, ← rv.length]; exact hz
  refine AbRev.call_list_rev (s := { s1 with heap := s1.heap.push (revObj a ((its.toArray.size : Int) - 1)) }) (I1.ok.hd hc) ⟨_, Heap.get?_push_size _ rfl, rfl, rfl⟩ (hl.push _) hne hn fun h' tk acc c' hk hS hi => ?_
  have new : ObjOk X.prog X.w (upd H1 (s1.heap.push (revObj a ((its.toArray.size : Int) - 1))).objs.size (.lst xs.reverse)) h' (s1.heap.push (revObj a ((its.toArray.size : Int) - 1))).objs.size (.lst xs.reverse) :=
    ⟨by rw [List.length_reverse]; exact hz, acc.toList, c', RT.vals_rev rv hi, by rw [Array.toArray_toList]; exact hS⟩
  exact ⟨.ref _, _, I2.turnedNew (t' := tk) (ch := [s1.heap.objs.size]) (fun b o hb e => hk b o (fun z => hb (by rw [z]; exact List.mem_singleton.mpr rfl)) e) (fun b hb => by rw [List.mem_singleton.mp hb]; exact hf) (Nat.le_refl _) new, rfl, q _ (I2.hok.fresh (Nat.le_refl _))⟩
end Ab
/-! Ab: short words. -/
namespace Ab
open PySem PySem.Spec PyProof.Rows L2
variable [TabCtx]
section
variable {C : Cc} {E E1 E2 E' : List O} {M M1 M2 M3 M' : Mem} {o o1 o2 o3 : O} {os : List O} {e a b c tg iter elt : Expr} {es : List Expr} {pos pos' p p2 pos2 : Pos} {d d1 d2 : D} {i j : Int} {n : Nat} {k k' : Bool} {r : Out} {body : List Stmt} {x y : Str} {ds : List D}

/-! ### built-ins by name -/
theorem EV.bi {id : String} (S : KS C (.builtin id) [o1] M1 o M') (h : EV C a E M o1 M1) (hm : Bt C.g x) (hv : bootBuiltins x = some (.builtin id)) (hn : x ≠ "__name__") (hdb : (x == ("__debug__" : Str)) = false) (hg : C.sc.names.lookup x = some .globalImplicit)
    (he : ∀ env, starEach [a] env = (false, eval a env) :: starEach [] env) : EV C (.Call (.Name x p) [a] [] pos) E M o M' := EV.cb S (EA.cons h EA.nil he) hm hv hg hn hdb he (fun _ => rfl)
theorem EV.bt {T : String} (S : KS C (.type T) [o1] M1 o M') (h : EV C a E M o1 M1) (hm : Bt C.g x) (hv : bootBuiltins x = some (.type T)) (hn : x ≠ "__name__") (hdb : (x == ("__debug__" : Str)) = false) (hg : C.sc.names.lookup x = some .globalImplicit)
    (he : ∀ env, starEach [a] env = (false, eval a env) :: starEach [] env) : EV C (.Call (.Name x p) [a] [] pos) E M o M' := EV.cty S (EA.cons h EA.nil he) hm hv hg hn hdb he (fun _ => rfl)
theorem bv_len : bootBuiltins "len" = some (.builtin "len") := by decide +kernel
theorem bv_sum : bootBuiltins "sum" = some (.builtin "sum") := by decide +kernel
theorem bv_all : bootBuiltins "all" = some (.builtin "all") := by decide +kernel
theorem bv_any : bootBuiltins "any" = some (.builtin "any") := by decide +kernel
theorem bv_abs : bootBuiltins "abs" = some (.builtin "abs") := by decide +kernel
theorem bv_min : bootBuiltins "min" = some (.builtin "min") := by decide +kernel
theorem bv_max : bootBuiltins "max" = some (.builtin "max") := by decide +kernel
theorem bv_int : bootBuiltins "int" = some (.type "int") := by decide +kernel
theorem bv_bool : bootBuiltins "bool" = some (.type "bool") := by decide +kernel
theorem bv_str : bootBuiltins "str" = some (.type "str") := by decide +kernel
theorem bv_tuple : bootBuiltins "tuple" = some (.type "tuple") := by decide +kernel
theorem bv_list : bootBuiltins "list" = some (.type "list") := by decide +kernel
theorem EV.len (h : EV C a E M (.dat d) M') (hl : lenD d = some n) (hm : Bt C.g "len") (hx : x = "len" := by rfl) (hg : C.sc.names.lookup x = some .globalImplicit := by rfl) (he : ∀ env, starEach [a] env = (false, eval a env) :: starEach [] env := by intro _; rfl) : EV C (.Call (.Name x p) [a] [] pos) E M (.dat (.int (n : Int))) M' := by
  subst hx; exact EV.bi (KS.len hl) h hm bv_len (by decide) (by decide) hg he
theorem EV.lenC {nn : Nat} {ps : List O} (h : EV C a E M (.adr nn) M') (hl : M'[nn]? = some (some ps)) (hm : Bt C.g "len") (hx : x = "len" := by rfl) (hg : C.sc.names.lookup x = some .globalImplicit := by rfl) (he : ∀ env, starEach [a] env = (false, eval a env) :: starEach [] env := by intro _; rfl) : EV C (.Call (.Name x p) [a] [] pos) E M (.dat (.int (ps.length : Int))) M' := by
  subst hx; exact EV.bi (KS.lenC hl) h hm bv_len (by decide) (by decide) hg he
theorem EV.sum {ns : List Int} (h : EV C a E M (.dat (.lst (ns.map .int))) M') (hm : Bt C.g "sum") (hx : x = "sum" := by rfl) (hg : C.sc.names.lookup x = some .globalImplicit := by rfl) (he : ∀ env, starEach [a] env = (false, eval a env) :: starEach [] env := by intro _; rfl) : EV C (.Call (.Name x p) [a] [] pos) E M (.dat (.int ns.sum)) M' := by
  subst hx; exact EV.bi KS.sum h hm bv_sum (by decide) (by decide) hg he
theorem EV.all {bs : List Bool} (h : EV C a E M (.dat (.lst (bs.map .bl))) M') (hm : Bt C.g "all") (hx : x = "all" := by rfl) (hg : C.sc.names.lookup x = some .globalImplicit := by rfl) (he : ∀ env, starEach [a] env = (false, eval a env) :: starEach [] env := by intro _; rfl) : EV C (.Call (.Name x p) [a] [] pos) E M (.dat (.bl (bs.all id))) M' := by
  subst hx; exact EV.bi KS.all h hm bv_all (by decide) (by decide) hg he
theorem EV.any {bs : List Bool} (h : EV C a E M (.dat (.lst (bs.map .bl))) M') (hm : Bt C.g "any") (hx : x = "any" := by rfl) (hg : C.sc.names.lookup x = some .globalImplicit := by rfl) (he : ∀ env, starEach [a] env = (false, eval a env) :: starEach [] env := by intro _; rfl) : EV C (.Call (.Name x p) [a] [] pos) E M (.dat (.bl (bs.any id))) M' := by
  subst hx; exact EV.bi KS.any h hm bv_any (by decide) (by decide) hg he
theorem EV.abs (h : EV C a E M (.dat (.int i)) M') (hm : Bt C.g "abs") (hx : x = "abs" := by rfl) (hg : C.sc.names.lookup x = some .globalImplicit := by rfl) (he : ∀ env, starEach [a] env = (false, eval a env) :: starEach [] env := by intro _; rfl) : EV C (.Call (.Name x p) [a] [] pos) E M (.dat (.int (i.natAbs : Int))) M' := by
  subst hx; exact EV.bi KS.abs h hm bv_abs (by decide) (by decide) hg he
theorem EV.intI (h : EV C a E M (.dat (.int i)) M') (hm : Bt C.g "int") (hx : x = "int" := by rfl) (hg : C.sc.names.lookup x = some .globalImplicit := by rfl) (he : ∀ env, starEach [a] env = (false, eval a env) :: starEach [] env := by intro _; rfl) : EV C (.Call (.Name x p) [a] [] pos) E M (.dat (.int i)) M' := by
  subst hx; exact EV.bt KS.intI h hm bv_int (by decide) (by decide) hg he
theorem EV.intB (h : EV C a E M (.dat (.bl k)) M') (hm : Bt C.g "int") (hx : x = "int" := by rfl) (hg : C.sc.names.lookup x = some .globalImplicit := by rfl) (he : ∀ env, starEach [a] env = (false, eval a env) :: starEach [] env := by intro _; rfl) : EV C (.Call (.Name x p) [a] [] pos) E M (.dat (.int (if k then 1 else 0))) M' := by
  subst hx; exact EV.bt KS.intB h hm bv_int (by decide) (by decide) hg he
theorem EV.tuple (h : EV C a E M (.dat d) M') (hl : seqD d = some ds) (hm : Bt C.g "tuple") (hx : x = "tuple" := by rfl) (hg : C.sc.names.lookup x = some .globalImplicit := by rfl) (he : ∀ env, starEach [a] env = (false, eval a env) :: starEach [] env := by intro _; rfl) : EV C (.Call (.Name x p) [a] [] pos) E M (.dat (.tup ds)) M' := by
  subst hx; exact EV.bt (KS.tuple hl) h hm bv_tuple (by decide) (by decide) hg he
theorem EV.tupleC {nn : Nat} (h : EV C a E M (.adr nn) M') (hl : M'[nn]? = some (some (ds.map .dat))) (hm : Bt C.g "tuple") (hx : x = "tuple" := by rfl) (hg : C.sc.names.lookup x = some .globalImplicit := by rfl) (he : ∀ env, starEach [a] env = (false, eval a env) :: starEach [] env := by intro _; rfl) : EV C (.Call (.Name x p) [a] [] pos) E M (.dat (.tup ds)) M' := by
  subst hx; exact EV.bt (KS.tupleC hl) h hm bv_tuple (by decide) (by decide) hg he
theorem EV.list (h : EV C a E M (.dat d) M') (hl : seqD d = some ds) (hm : Bt C.g "list") (hx : x = "list" := by rfl) (hg : C.sc.names.lookup x = some .globalImplicit := by rfl) (he : ∀ env, starEach [a] env = (false, eval a env) :: starEach [] env := by intro _; rfl) : EV C (.Call (.Name x p) [a] [] pos) E M (.dat (.lst ds)) M' := by
  subst hx; exact EV.bt (KS.list hl) h hm bv_list (by decide) (by decide) hg he
theorem EV.listN (h : EV C a E M (.dat d) M') (hl : seqD d = some ds) (hm : Bt C.g "list") (hx : x = "list" := by rfl) (hg : C.sc.names.lookup x = some .globalImplicit := by rfl) (he : ∀ env, starEach [a] env = (false, eval a env) :: starEach [] env := by intro _; rfl) : EV C (.Call (.Name x p) [a] [] pos) E M (.adr M'.length) (M' ++ [some (ds.map .dat)]) := by
  subst hx; exact EV.bt (KS.listN hl) h hm bv_list (by decide) (by decide) hg he
theorem EV.max2 (h : EV C a E M (.dat (.int i)) M1) (h' : EV C b E M1 (.dat (.int j)) M') (hm : Bt C.g "max") (hx : x = "max" := by rfl) (hg : C.sc.names.lookup x = some .globalImplicit := by rfl) (he : ∀ env, starEach [a, b] env = (false, eval a env) :: starEach [b] env := by intro _; rfl) (he2 : ∀ env, starEach [b] env = (false, eval b env) :: starEach [] env := by intro _; rfl) (hpl : ∀ env, (backTo pos (starEach [b] env)).any (·.1) = false := by intro _; rfl) : EV C (.Call (.Name x p) [a, b] [] pos) E M (.dat (.int (max i j))) M' := by
  subst hx
  have := EV.cb (p := p) (pos := pos) (KS.max2 (C := C) (M := M') (i := i) (j := j)) (EA.cons h (EA.cons h' EA.nil he2) he) hm bv_max hg (by decide) (by decide) he hpl
  have e : (if j > i then j else i) = max i j := by split <;> omega
  rw [e] at this
  exact this
/-- list(reversed(xs)), a cell -/
theorem EV.listRevN (h : EV C a E M (.dat (.lst ds)) M') (hm : Bt C.g "list") (hm2 : Bt C.g "reversed") (hx : x = "list" := by rfl) (hy : y = "reversed" := by rfl) (hg : C.sc.names.lookup x = some .globalImplicit := by rfl) (hg2 : C.sc.names.lookup y = some .globalImplicit := by rfl) (he : ∀ env, starEach [a] env = (false, eval a env) :: starEach [] env := by intro _; rfl) :
    EV C (.Call (.Name x p) [.Call (.Name y p2) [a] [] pos2] [] pos) E M (.adr M'.length) (M' ++ [some (ds.reverse.map .dat)]) := by
  subst hx hy
  refine EV.mk (t := tListRev C.g.K (UE C a)) (fun X hX => ?_) fun I H adr σ Q s q => h I H adr σ _ s fun v I1 H1 adr1 s1 g1 v1 => ?_
  · have := pe_listRev (p := p) (p2 := p2) (pos := pos) (pos2 := pos2) hX.calm (by show X.env.scope.names.lookup _ = _; rw [hX.sc]; exact hg) (by rw [hX.mg]; exact hm) (by show X.env.scope.names.lookup _ = _; rw [hX.sc]; exact hg2) (by rw [hX.mg]; exact hm2) (ue hX a) (he X.env) rfl
    rw [hX.K] at this
    exact this
  · cases (show Rep I1 (.lst ds) v from v1) with
    | @lst q' xs _ hp hr =>
      refine ⟨q', xs, rfl, sql_uniq (s1.ex _ _ hp), fun q2 h2 => ?_⟩
      obtain ⟨s2, g2, r2⟩ := s1.cel h2 (Vs.reps hr.reverse)
      exact q _ _ _ _ s2 (g1.trans g2) ⟨q2, r2, rfl⟩
theorem EV.listRev (h : EV C a E M (.dat (.lst ds)) M') (hm : Bt C.g "list") (hm2 : Bt C.g "reversed") (hl : M.length ≤ M'.length) (ok : OkM M M') (hx : x = "list" := by rfl) (hy : y = "reversed" := by rfl) (hg : C.sc.names.lookup x = some .globalImplicit := by rfl) (hg2 : C.sc.names.lookup y = some .globalImplicit := by rfl) (he : ∀ env, starEach [a] env = (false, eval a env) :: starEach [] env := by intro _; rfl) :
    EV C (.Call (.Name x p) [.Call (.Name y p2) [a] [] pos2] [] pos) E M (.dat (.lst ds.reverse)) M' := Ev.froz (EV.listRevN h hm hm2 hx hy hg hg2 he) rfl hl ok

/-! ### sums and the like -/
theorem EV.add (ha : EV C a E M (.dat (.int i)) M1) (hb : EV C b E M1 (.dat (.int j)) M') : EV C (.BinOp a .Add b pos) E M (.dat (.int (i + j))) M' := EV.bin ha hb BS.addI
theorem EV.sub (ha : EV C a E M (.dat (.int i)) M1) (hb : EV C b E M1 (.dat (.int j)) M') : EV C (.BinOp a .Sub b pos) E M (.dat (.int (i - j))) M' := EV.bin ha hb BS.subI
theorem EV.mul (ha : EV C a E M (.dat (.int i)) M1) (hb : EV C b E M1 (.dat (.int j)) M') (h : IntMulOk i j) : EV C (.BinOp a .Mult b pos) E M (.dat (.int (i * j))) M' := EV.bin ha hb (BS.mulI h)
theorem EV.mod (ha : EV C a E M (.dat (.int i)) M1) (hb : EV C b E M1 (.dat (.int j)) M') (h : 0 < j) : EV C (.BinOp a .Mod b pos) E M (.dat (.int (i % j))) M' := EV.bin ha hb (BS.modI h)
theorem EV.div (ha : EV C a E M (.dat (.int i)) M1) (hb : EV C b E M1 (.dat (.int j)) M') (h : CDivW i j) : EV C (.BinOp a .FloorDiv b pos) E M (.dat (.int (i / j))) M' := EV.bin ha hb (BS.divI h)
theorem EV.pow (ha : EV C a E M (.dat (.int i)) M1) (hb : EV C b E M1 (.dat (.int j)) M') (h : CPow i j) : EV C (.BinOp a .Pow b pos) E M (.dat (.int (i ^ j.toNat))) M' := EV.bin ha hb (BS.powI h)
theorem mul_ok {i j : Int} {m n : Nat} (hi : i.natAbs < 2 ^ m) (hj : j.natAbs < 2 ^ n) (h0 : 0 < m := by decide) (h1 : 0 < n := by decide) (h : m + n ≤ 1000000 := by decide) : IntMulOk i j := CMulW.ok (wide_mul hi hj h0 h1 h)
theorem bits_le {i : Int} (h : -(2 ^ 64) < i ∧ i < 2 ^ 64) : Builtin.Int.intBits i ≤ 64 := by
  unfold Builtin.Int.intBits
  split
  · omega
  · have h1 : i.natAbs < 2 ^ 64 := by omega
    have := PySem.Flt.log2_lt_of (show 0 < 64 by decide) h1
    omega
theorem mul_okL {i j : Int} (h : -(2 ^ 64) < i ∧ i < 2 ^ 64) : IntMulOk i j := IntMulOk.of_left (bits_le h)
theorem mul_okR {i j : Int} (h : -(2 ^ 64) < j ∧ j < 2 ^ 64) : IntMulOk i j := IntMulOk.of_right (bits_le h)
theorem EV.mulL (ha : EV C a E M (.dat (.int i)) M1) (hb : EV C b E M1 (.dat (.int j)) M') (h : -(2 ^ 64) < i ∧ i < 2 ^ 64) : EV C (.BinOp a .Mult b pos) E M (.dat (.int (i * j))) M' := EV.mul ha hb (mul_okL h)
theorem EV.mulR (ha : EV C a E M (.dat (.int i)) M1) (hb : EV C b E M1 (.dat (.int j)) M') (h : -(2 ^ 64) < j ∧ j < 2 ^ 64) : EV C (.BinOp a .Mult b pos) E M (.dat (.int (i * j))) M' := EV.mul ha hb (mul_okR h)

/-! ### guards -/
theorem ET.to {e : Expr} (h : ET C e E M k M') (q : k = k') : ET C e E M k' M' := q ▸ h
theorem SB.guard {ys rest : List Stmt} (hc : ET C c E M k M1) (h1 : k = true → SB C ys E M1 r) (h2 : k = false → SB C rest E M1 r) (he : r.ends = true := by rfl) : SB C (.If c ys [] pos :: rest) E M r := by
  cases k with
  | true => exact SB.stop (ST.yes hc (h1 rfl)) he
  | false => exact SB.cons (ST.no hc SB.nil) (h2 rfl)
theorem SB.to {sts : List Stmt} {r' : Out} (h : SB C sts E M r) (q : r = r') : SB C sts E M r' := q ▸ h
theorem ST.to {st : Stmt} {r' : Out} (h : ST C st E M r) (q : r = r') : ST C st E M r' := q ▸ h
/-! ### a cell is frozen -/
theorem SB.fz {jj nn : Nat} {sts : List Stmt} (he : E[jj]? = some (.adr nn)) (hm : M[nn]? = some (some (ds.map .dat))) (h : SB C sts (E.set jj (.dat (.lst ds))) (M.set nn none) r) : SB C sts E M r := fun I H adr σ D s q => by
  have hk : nn < adr.length := by
    rw [s.sto.len]
    exact (List.getElem?_eq_some_iff.mp hm).1
  obtain ⟨I1, s1, g1, r1⟩ := s.frz (List.getElem?_eq_getElem hk) hm
  have hj : jj < σ.length := by
    rw [← s.len]
    exact (List.getElem?_eq_some_iff.mp he).1
  have hs := s.slot jj _ σ[jj] he (List.getElem?_eq_getElem hj)
  cases hv : σ[jj] with
  | none =>
    rw [hv] at hs
    cases hs
  | some v =>
    rw [hv] at hs
    obtain ⟨a', h1, h2⟩ := hs
    rw [List.getElem?_eq_getElem hk] at h1
    cases h1
    subst h2
    have s2 : Stt I1 H adr (σ.set jj (some (.ref adr[nn]))) (E.set jj (.dat (.lst ds))) (M.set nn none) := s1.set r1
    have e : σ.set jj (some (.ref adr[nn])) = σ := by
      rw [← hv]
      exact List.set_getElem_self hj
    rw [e] at s2
    exact h I1 H adr σ D s2 (q.mono g1)

/-! ### what a def leaves behind may be dropped -/
def LowO (n : Nat) : O → Prop
  | .adr k => k < n
  | .obj _ fs => ∀ f ∈ fs, f.2 < n
  | _ => True
def LowM (n : Nat) (M : Mem) : Prop := ∀ (k : Nat) (os : List O), M[k]? = some (some os) → ∀ o ∈ os, LowO n o
theorem LowM.nil {n : Nat} : LowM n [] := fun k os h => by simp at h
theorem LowM.dat {n : Nat} {ds : List D} {M : Mem} (h : LowM n M) : LowM n (some (ds.map .dat) :: M) := fun k os q o ho => by
  cases k with
  | zero =>
    have e : ds.map O.dat = os := Option.some.inj (Option.some.inj q)
    subst e
    obtain ⟨d, _, rfl⟩ := List.mem_map.mp ho
    exact True.intro
  | succ k => exact h k os q o ho
theorem LowM.none {n : Nat} {M : Mem} (h : LowM n M) : LowM n (none :: M) := fun k os q o ho => by
  cases k with
  | zero => cases q
  | succ k => exact h k os q o ho
theorem vo_take {I : Hp} {adr : List Addr} {n : Nat} {v : V} : ∀ {o : O}, LowO n o → Vo I adr o v → Vo I (adr.take n) o v
  | .no, _, _ => True.intro
  | .dat _, _, h => h
  | .scr _ _, _, h => h
  | .obj _ fs, hk, h => by
    obtain ⟨p, dx, gs, h1, h2, h3⟩ := h
    exact ⟨p, dx, gs, h1, h2, prImp h3 fun f hf g q => ⟨q.1, let ⟨a, e1, e2⟩ := q.2; ⟨a, by rw [List.getElem?_take, if_pos (show f.2 < n from hk f hf)]; exact e1, e2⟩⟩⟩
  | .adr k, hk, h => by
    obtain ⟨a, h1, h2⟩ := h
    exact ⟨a, by rw [List.getElem?_take, if_pos (show k < n from hk)]; exact h1, h2⟩
theorem vs_take {I : Hp} {adr : List Addr} {n : Nat} : ∀ {os : List O} {xs : List V}, (∀ o ∈ os, LowO n o) → Vs I adr os xs → Vs I (adr.take n) os xs
  | _, _, _, .nil => .nil
  | _, _, hl, .cons h r => .cons (vo_take (hl _ List.mem_cons_self) h) (vs_take (fun o ho => hl o (List.mem_cons_of_mem _ ho)) r)
theorem FN.mkJ {g : Pg} {x : Str} {st : Stmt} {N ps : List Str} {k : Nat} {R : Rel} (T : TxtF g x st) (S : FnScope N ps (defScope st))
    (hb : ∀ (kV doc pm : Value) (an : Option Addr) (cdv ct : Value) (us : List Value), us.length = ps.length → bindArgs (PySem.W.fnOf x x (defArgs st) (defBody st) (defScope st) .none kV doc pm an cdv ct) ⟨us, []⟩ = pure (ps.zip us))
    (hl : ∀ os M o M', R os M o M' → os.length = ps.length) (body : ∀ os M o M', R os M o M' → M.length ≤ M'.length ∧ LowO M'.length o ∧ LowM M'.length M' ∧ ∃ J, SB (mkC g N st k) (defBody st) (pad N os) M (.rt o (M' ++ J))) : FN g x (k + 1) R := by
  obtain ⟨f, fd, F, hm⟩ := T.fn
  refine ⟨f, fd, ps, F.ok (N := N) S (fun vs H Q E h => ?_) (fun cdv A outer s H vs Q E hr h => ?_), hm, F.kp, F.binds hb⟩
  · obtain ⟨I, adr, os, M, o, M', r, _, _, v, _⟩ := h
    rw [← v.length]
    exact hl _ _ _ _ r
  · obtain ⟨I, adr, os, M, o, M', r, ex, sto, v, q⟩ := h
    obtain ⟨hlen, lo, lm, J, hB⟩ := body os M o M' r
    refine ⟨UB (mkC g N st k) (defBody st), ub ⟨rfl, rfl, rfl, rfl, rfl, rfl, rfl, rfl, hr, PassesOwn.never, takes0, fun _ _ => rfl, fun _ _ z => (by cases z), ⟨_, _, rfl, S.gen, S.co, rfl, rfl⟩⟩ _, ?_⟩
    refine hB I H adr (L2.start N vs) _ ⟨ex, sto, ?_, fun i p ov h1 h2 => ?_⟩ fun w I' H' adr' s' g' v' => ?_
    · unfold pad L2.start
      rw [List.length_append, List.length_append, List.length_map, List.length_replicate, List.length_replicate, v.length]
    · unfold pad at h1
      unfold L2.start at h2
      by_cases hi : i < os.length
      · rw [List.getElem?_append_left hi] at h1
        obtain ⟨w, e1, e2⟩ := v.get h1
        rw [List.getElem?_append_left (by rw [List.length_map, ← v.length]; exact hi), List.getElem?_map, e1] at h2
        cases h2
        exact e2
      · rw [List.getElem?_append_right (Nat.le_of_not_lt hi)] at h1
        have hp : p = .no := List.eq_of_mem_replicate (List.mem_of_getElem? h1)
        subst hp
        cases ov with
        | none => rfl
        | some w => exact True.intro
    · obtain ⟨nw, rfl, fr⟩ := g'.new
      have l1 := s'.sto.len
      have l2 := sto.len
      rw [List.length_append, List.length_append] at l1
      have ht : (adr ++ nw).take M'.length = adr ++ nw.take (M'.length - adr.length) := by
        rw [List.take_append, List.take_of_length_le (by omega)]
      have sub : ∀ (k : Nat) (a : Addr), ((adr ++ nw).take M'.length)[k]? = some a → (adr ++ nw)[k]? = some a := fun k a h => by
        rw [List.getElem?_take] at h
        split at h
        · exact h
        · cases h
      refine q w I' H' ((adr ++ nw).take M'.length) s'.ex ⟨?_, s'.sto.nd.sublist (List.take_sublist _ _), fun k a ps h1 h2 => ?_, fun k a h1 => s'.sto.dom k a (sub k a h1), s'.sto.amb⟩ ⟨g'.ex, ⟨_, ht, fun p hp => fr p (List.take_subset _ _ hp)⟩, g'.keep, g'.dom, g'.out, g'.code⟩ (vo_take lo v')
      · rw [List.length_take, List.length_append]
        omega
      · have hk : k < M'.length := (List.getElem?_eq_some_iff.mp h2).1
        obtain ⟨c1, xs, c2, c3⟩ := s'.sto.cell k a ps (sub k a h1) (by rw [List.getElem?_append_left hk]; exact h2)
        exact ⟨c1, xs, c2, vs_take (lm k ps h2) c3⟩
theorem FN.mkNx {g : Pg} {x : Str} {st : Stmt} {N ps : List Str} {k : Nat} {R : Rel} (T : TxtF g x st) (S : FnScope N ps (defScope st))
    (hb : ∀ (kV doc pm : Value) (an : Option Addr) (cdv ct : Value) (us : List Value), us.length = ps.length → bindArgs (PySem.W.fnOf x x (defArgs st) (defBody st) (defScope st) .none kV doc pm an cdv ct) ⟨us, []⟩ = pure (ps.zip us))
    (hl : ∀ os M o M', R os M o M' → os.length = ps.length) (body : ∀ os M o M', R os M o M' → o = .dat .non ∧ ∃ E', SB (mkC g N st k) (defBody st) (pad N os) M (.nx E' M')) : FN g x (k + 1) R := by
  obtain ⟨f, fd, F, hm⟩ := T.fn
  refine ⟨f, fd, ps, F.ok (N := N) S (fun vs H Q E h => ?_) (fun cdv A outer s H vs Q E hr h => ?_), hm, F.kp, F.binds hb⟩
  · obtain ⟨I, adr, os, M, o, M', r, _, _, v, _⟩ := h
    rw [← v.length]
    exact hl _ _ _ _ r
  · obtain ⟨I, adr, os, M, o, M', r, ex, sto, v, q⟩ := h
    obtain ⟨rfl, E', hB⟩ := body os M o M' r
    refine ⟨UB (mkC g N st k) (defBody st), ub ⟨rfl, rfl, rfl, rfl, rfl, rfl, rfl, rfl, hr, PassesOwn.never, takes0, fun _ _ => rfl, fun _ _ z => (by cases z), ⟨_, _, rfl, S.gen, S.co, rfl, rfl⟩⟩ _, ?_⟩
    refine hB I H adr (L2.start N vs) _ ⟨ex, sto, ?_, fun i p ov h1 h2 => ?_⟩ fun I' H' adr' σ' s' g' => q .non I' H' adr' s'.ex s'.sto g' .non
    · unfold pad L2.start
      rw [List.length_append, List.length_append, List.length_map, List.length_replicate, List.length_replicate, v.length]
    · unfold pad at h1
      unfold L2.start at h2
      by_cases hi : i < os.length
      · rw [List.getElem?_append_left hi] at h1
        obtain ⟨w, e1, e2⟩ := v.get h1
        rw [List.getElem?_append_left (by rw [List.length_map, ← v.length]; exact hi), List.getElem?_map, e1] at h2
        cases h2
        exact e2
      · rw [List.getElem?_append_right (Nat.le_of_not_lt hi)] at h1
        have hp : p = .no := List.eq_of_mem_replicate (List.mem_of_getElem? h1)
        subst hp
        cases ov with
        | none => rfl
        | some w => exact True.intro
end
end Ab
/-! Ab: kinds of data, rows and tables. -/
namespace Ab
open PySem PySem.Spec PyProof.Rows L2
variable [TabCtx]

def D.isInt : D → Bool
  | .int _ => true
  | .bl _ => true
  | _ => false
def D.isBl : D → Bool
  | .bl _ => true
  | _ => false
def D.isStr : D → Bool
  | .str _ => true
  | _ => false
def D.isTup : D → Bool
  | .tup _ => true
  | _ => false
def D.isLst : D → Bool
  | .lst _ => true
  | _ => false
def D.isNum : D → Bool
  | .int _ => true
  | _ => false
theorem kit_int : ∀ {d : D}, kitB d.ty "int" = some d.isInt
  | .non => (by decide +kernel : kitB "NoneType" "int" = some false)
  | .bl _ => (by decide +kernel : kitB "bool" "int" = some true)
  | .int _ => (by decide +kernel : kitB "int" "int" = some true)
  | .str _ => (by decide +kernel : kitB "str" "int" = some false)
  | .tup _ => (by decide +kernel : kitB "tuple" "int" = some false)
  | .lst _ => (by decide +kernel : kitB "list" "int" = some false)
  | .dct _ _ => (by decide +kernel : kitB "dict" "int" = some false)
theorem kit_bool : ∀ {d : D}, kitB d.ty "bool" = some d.isBl
  | .non => (by decide +kernel : kitB "NoneType" "bool" = some false)
  | .bl _ => (by decide +kernel : kitB "bool" "bool" = some true)
  | .int _ => (by decide +kernel : kitB "int" "bool" = some false)
  | .str _ => (by decide +kernel : kitB "str" "bool" = some false)
  | .tup _ => (by decide +kernel : kitB "tuple" "bool" = some false)
  | .lst _ => (by decide +kernel : kitB "list" "bool" = some false)
  | .dct _ _ => (by decide +kernel : kitB "dict" "bool" = some false)
theorem kit_str : ∀ {d : D}, kitB d.ty "str" = some d.isStr
  | .non => (by decide +kernel : kitB "NoneType" "str" = some false)
  | .bl _ => (by decide +kernel : kitB "bool" "str" = some false)
  | .int _ => (by decide +kernel : kitB "int" "str" = some false)
  | .str _ => (by decide +kernel : kitB "str" "str" = some true)
  | .tup _ => (by decide +kernel : kitB "tuple" "str" = some false)
  | .lst _ => (by decide +kernel : kitB "list" "str" = some false)
  | .dct _ _ => (by decide +kernel : kitB "dict" "str" = some false)
theorem kit_tuple : ∀ {d : D}, kitB d.ty "tuple" = some d.isTup
  | .non => (by decide +kernel : kitB "NoneType" "tuple" = some false)
  | .bl _ => (by decide +kernel : kitB "bool" "tuple" = some false)
  | .int _ => (by decide +kernel : kitB "int" "tuple" = some false)
  | .str _ => (by decide +kernel : kitB "str" "tuple" = some false)
  | .tup _ => (by decide +kernel : kitB "tuple" "tuple" = some true)
  | .lst _ => (by decide +kernel : kitB "list" "tuple" = some false)
  | .dct _ _ => (by decide +kernel : kitB "dict" "tuple" = some false)
theorem kit_list : ∀ {d : D}, kitB d.ty "list" = some d.isLst
  | .non => (by decide +kernel : kitB "NoneType" "list" = some false)
  | .bl _ => (by decide +kernel : kitB "bool" "list" = some false)
  | .int _ => (by decide +kernel : kitB "int" "list" = some false)
  | .str _ => (by decide +kernel : kitB "str" "list" = some false)
  | .tup _ => (by decide +kernel : kitB "tuple" "list" = some false)
  | .lst _ => (by decide +kernel : kitB "list" "list" = some true)
  | .dct _ _ => (by decide +kernel : kitB "dict" "list" = some false)
section
variable {C : Cc} {E : List O} {M M1 M2 M' : Mem} {o : O} {a b : Expr} {pos p pt : Pos} {d : D} {x T : Str} {i j : Int} {k : Bool}
theorem EV.isInt (h : EV C a E M (.dat d) M') (hm : Bt C.g "isinstance") (hT : Bt C.g "int") (hx : x = "isinstance" := by rfl) (hy : T = "int" := by rfl) (hg : C.sc.names.lookup x = some .globalImplicit := by rfl) (hgT : C.sc.names.lookup T = some .globalImplicit := by rfl) (hs : ∀ env, starEach [a, .Name T pt] env = (false, eval a env) :: starEach [.Name T pt] env := by intro _; rfl) : EV C (.Call (.Name x p) [a, .Name T pt] [] pos) E M (.dat (.bl d.isInt)) M' := by
  subst hx hy; exact EV.isi h hm hT bv_int kit_int rfl hg hgT (by decide) (by decide) (by decide) (by decide) hs
theorem EV.isBool (h : EV C a E M (.dat d) M') (hm : Bt C.g "isinstance") (hT : Bt C.g "bool") (hx : x = "isinstance" := by rfl) (hy : T = "bool" := by rfl) (hg : C.sc.names.lookup x = some .globalImplicit := by rfl) (hgT : C.sc.names.lookup T = some .globalImplicit := by rfl) (hs : ∀ env, starEach [a, .Name T pt] env = (false, eval a env) :: starEach [.Name T pt] env := by intro _; rfl) : EV C (.Call (.Name x p) [a, .Name T pt] [] pos) E M (.dat (.bl d.isBl)) M' := by
  subst hx hy; exact EV.isi h hm hT bv_bool kit_bool rfl hg hgT (by decide) (by decide) (by decide) (by decide) hs
theorem EV.isStr (h : EV C a E M (.dat d) M') (hm : Bt C.g "isinstance") (hT : Bt C.g "str") (hx : x = "isinstance" := by rfl) (hy : T = "str" := by rfl) (hg : C.sc.names.lookup x = some .globalImplicit := by rfl) (hgT : C.sc.names.lookup T = some .globalImplicit := by rfl) (hs : ∀ env, starEach [a, .Name T pt] env = (false, eval a env) :: starEach [.Name T pt] env := by intro _; rfl) : EV C (.Call (.Name x p) [a, .Name T pt] [] pos) E M (.dat (.bl d.isStr)) M' := by
  subst hx hy; exact EV.isi h hm hT bv_str kit_str rfl hg hgT (by decide) (by decide) (by decide) (by decide) hs
theorem EV.isTuple (h : EV C a E M (.dat d) M') (hm : Bt C.g "isinstance") (hT : Bt C.g "tuple") (hx : x = "isinstance" := by rfl) (hy : T = "tuple" := by rfl) (hg : C.sc.names.lookup x = some .globalImplicit := by rfl) (hgT : C.sc.names.lookup T = some .globalImplicit := by rfl) (hs : ∀ env, starEach [a, .Name T pt] env = (false, eval a env) :: starEach [.Name T pt] env := by intro _; rfl) : EV C (.Call (.Name x p) [a, .Name T pt] [] pos) E M (.dat (.bl d.isTup)) M' := by
  subst hx hy; exact EV.isi h hm hT bv_tuple kit_tuple rfl hg hgT (by decide) (by decide) (by decide) (by decide) hs
theorem EV.isList (h : EV C a E M (.dat d) M') (hm : Bt C.g "isinstance") (hT : Bt C.g "list") (hx : x = "isinstance" := by rfl) (hy : T = "list" := by rfl) (hg : C.sc.names.lookup x = some .globalImplicit := by rfl) (hgT : C.sc.names.lookup T = some .globalImplicit := by rfl) (hs : ∀ env, starEach [a, .Name T pt] env = (false, eval a env) :: starEach [.Name T pt] env := by intro _; rfl) : EV C (.Call (.Name x p) [a, .Name T pt] [] pos) E M (.dat (.bl d.isLst)) M' := by
  subst hx hy; exact EV.isi h hm hT bv_list kit_list rfl hg hgT (by decide) (by decide) (by decide) (by decide) hs
end
/-- built-in names that stand -/
structure Bs (g : Pg) : Prop where
  len : Bt g "len"
  sum : Bt g "sum"
  all : Bt g "all"
  any : Bt g "any"
  abs : Bt g "abs"
  min : Bt g "min"
  max : Bt g "max"
  int : Bt g "int"
  bool : Bt g "bool"
  str : Bt g "str"
  tuple : Bt g "tuple"
  list : Bt g "list"
  range : Bt g "range"
  zip : Bt g "zip"
  enumerate : Bt g "enumerate"
  isinstance : Bt g "isinstance"
  reversed : Bt g "reversed"
  sorted : Bt g "sorted"

/-! ### relations -/
def P1 (F : D → D → Prop) : Rel := fun os M o M' => ∃ d r, os = [.dat d] ∧ M = [] ∧ o = .dat r ∧ M' = [] ∧ F d r
def P2 (F : D → D → D → Prop) : Rel := fun os M o M' => ∃ d e r, os = [.dat d, .dat e] ∧ M = [] ∧ o = .dat r ∧ M' = [] ∧ F d e r
def P3 (F : D → D → D → D → Prop) : Rel := fun os M o M' => ∃ d e f r, os = [.dat d, .dat e, .dat f] ∧ M = [] ∧ o = .dat r ∧ M' = [] ∧ F d e f r
section
variable {C : Cc} {E : List O} {M M1 M2 M3 M' : Mem} {a b c : Expr} {pos p : Pos} {d e f r : D} {x : Str} {k : Nat}
theorem FN.mk1 {g : Pg} {st : Stmt} {N : List Str} {y : Str} {F : D → D → Prop} (T : TxtF g x st) (S : FnScope N [y] (defScope st))
    (hb : ∀ (kV doc pm : Value) (an : Option Addr) (cdv ct : Value) (us : List Value), us.length = 1 → bindArgs (PySem.W.fnOf x x (defArgs st) (defBody st) (defScope st) .none kV doc pm an cdv ct) ⟨us, []⟩ = pure ([y].zip us))
    (body : ∀ d r, F d r → SB (mkC g N st k) (defBody st) (pad N [.dat d]) [] (.rt (.dat r) [])) : FN g x (k + 1) (P1 F) :=
  FN.mk T S hb (fun os M o M' h => by obtain ⟨d, r, rfl, _⟩ := h; rfl) (fun os M o M' h => by obtain ⟨d, r, rfl, rfl, rfl, rfl, h⟩ := h; exact body d r h)
theorem FN.mk2 {g : Pg} {st : Stmt} {N : List Str} {y z : Str} {F : D → D → D → Prop} (T : TxtF g x st) (S : FnScope N [y, z] (defScope st))
    (hb : ∀ (kV doc pm : Value) (an : Option Addr) (cdv ct : Value) (us : List Value), us.length = 2 → bindArgs (PySem.W.fnOf x x (defArgs st) (defBody st) (defScope st) .none kV doc pm an cdv ct) ⟨us, []⟩ = pure ([y, z].zip us))
    (body : ∀ d e r, F d e r → SB (mkC g N st k) (defBody st) (pad N [.dat d, .dat e]) [] (.rt (.dat r) [])) : FN g x (k + 1) (P2 F) :=
  FN.mk T S hb (fun os M o M' h => by obtain ⟨d, e, r, rfl, _⟩ := h; rfl) (fun os M o M' h => by obtain ⟨d, e, r, rfl, rfl, rfl, rfl, h⟩ := h; exact body d e r h)
theorem FN.mk3 {g : Pg} {st : Stmt} {N : List Str} {y z u : Str} {F : D → D → D → D → Prop} (T : TxtF g x st) (S : FnScope N [y, z, u] (defScope st))
    (hb : ∀ (kV doc pm : Value) (an : Option Addr) (cdv ct : Value) (us : List Value), us.length = 3 → bindArgs (PySem.W.fnOf x x (defArgs st) (defBody st) (defScope st) .none kV doc pm an cdv ct) ⟨us, []⟩ = pure ([y, z, u].zip us))
    (body : ∀ d e f r, F d e f r → SB (mkC g N st k) (defBody st) (pad N [.dat d, .dat e, .dat f]) [] (.rt (.dat r) [])) : FN g x (k + 1) (P3 F) :=
  FN.mk T S hb (fun os M o M' h => by obtain ⟨d, e, f, r, rfl, _⟩ := h; rfl) (fun os M o M' h => by obtain ⟨d, e, f, r, rfl, rfl, rfl, rfl, h⟩ := h; exact body d e f r h)
theorem EV.c1 {F : D → D → Prop} (H : FN C.g x k (P1 F)) (ha : EV C a E M (.dat d) M') (hF : F d r) (hk : Nat.ble k C.k = true := by rfl) (hg : C.sc.names.lookup x = some .globalImplicit := by rfl) (hdb : (x == ("__debug__" : Str)) = false := by decide) (he : ∀ env, starEach [a] env = (false, eval a env) :: starEach [] env := by intro _; rfl) : EV C (.Call (.Name x p) [a] [] pos) E M (.dat r) M' :=
  EV.call (ds := [d]) H (EA.cons ha EA.nil he) ⟨d, r, rfl, rfl, rfl, rfl, hF⟩ hk hg hdb he (fun _ => rfl)
theorem EV.c2 {F : D → D → D → Prop} (H : FN C.g x k (P2 F)) (ha : EV C a E M (.dat d) M1) (hb : EV C b E M1 (.dat e) M') (hF : F d e r) (hk : Nat.ble k C.k = true := by rfl) (hg : C.sc.names.lookup x = some .globalImplicit := by rfl) (hdb : (x == ("__debug__" : Str)) = false := by decide)
    (he : ∀ env, starEach [a, b] env = (false, eval a env) :: starEach [b] env := by intro _; rfl) (he2 : ∀ env, starEach [b] env = (false, eval b env) :: starEach [] env := by intro _; rfl) (hpl : ∀ env, (backTo pos (starEach [b] env)).any (·.1) = false := by intro _; rfl) : EV C (.Call (.Name x p) [a, b] [] pos) E M (.dat r) M' :=
  EV.call (ds := [d, e]) H (EA.cons ha (EA.cons hb EA.nil he2) he) ⟨d, e, r, rfl, rfl, rfl, rfl, hF⟩ hk hg hdb he hpl
theorem EV.c3 {F : D → D → D → D → Prop} (H : FN C.g x k (P3 F)) (ha : EV C a E M (.dat d) M1) (hb : EV C b E M1 (.dat e) M2) (hc : EV C c E M2 (.dat f) M') (hF : F d e f r) (hk : Nat.ble k C.k = true := by rfl) (hg : C.sc.names.lookup x = some .globalImplicit := by rfl) (hdb : (x == ("__debug__" : Str)) = false := by decide)
    (he : ∀ env, starEach [a, b, c] env = (false, eval a env) :: starEach [b, c] env := by intro _; rfl) (he2 : ∀ env, starEach [b, c] env = (false, eval b env) :: starEach [c] env := by intro _; rfl) (he3 : ∀ env, starEach [c] env = (false, eval c env) :: starEach [] env := by intro _; rfl) (hpl : ∀ env, (backTo pos (starEach [b, c] env)).any (·.1) = false := by intro _; rfl) : EV C (.Call (.Name x p) [a, b, c] [] pos) E M (.dat r) M' :=
  EV.call (ds := [d, e, f]) H (EA.cons ha (EA.cons hb (EA.cons hc EA.nil he3) he2) he) ⟨d, e, f, r, rfl, rfl, rfl, rfl, hF⟩ hk hg hdb he hpl
end

/-- a def that falls through -/
theorem FN.mkN1 {g : Pg} {st : Stmt} {N : List Str} {y x : Str} {k : Nat} {F : D → D → Prop} (T : TxtF g x st) (S : FnScope N [y] (defScope st))
    (hb : ∀ (kV doc pm : Value) (an : Option Addr) (cdv ct : Value) (us : List Value), us.length = 1 → bindArgs (PySem.W.fnOf x x (defArgs st) (defBody st) (defScope st) .none kV doc pm an cdv ct) ⟨us, []⟩ = pure ([y].zip us))
    (body : ∀ d r, F d r → r = .non ∧ ∃ E', SB (mkC g N st k) (defBody st) (pad N [.dat d]) [] (.nx E' [])) : FN g x (k + 1) (P1 F) := FN.mkNx T S hb (fun os M o M' h => by obtain ⟨d, r, rfl, _⟩ := h; rfl) (fun os M o M' h => by
  obtain ⟨d, r, rfl, rfl, rfl, rfl, h⟩ := h
  obtain ⟨e1, h1⟩ := body d r h
  exact ⟨congrArg O.dat e1, h1⟩)
theorem FN.mkN3 {g : Pg} {st : Stmt} {N : List Str} {y z u x : Str} {k : Nat} {F : D → D → D → D → Prop} (T : TxtF g x st) (S : FnScope N [y, z, u] (defScope st))
    (hb : ∀ (kV doc pm : Value) (an : Option Addr) (cdv ct : Value) (us : List Value), us.length = 3 → bindArgs (PySem.W.fnOf x x (defArgs st) (defBody st) (defScope st) .none kV doc pm an cdv ct) ⟨us, []⟩ = pure ([y, z, u].zip us))
    (body : ∀ d e f r, F d e f r → r = .non ∧ ∃ E', SB (mkC g N st k) (defBody st) (pad N [.dat d, .dat e, .dat f]) [] (.nx E' [])) : FN g x (k + 1) (P3 F) := FN.mkNx T S hb (fun os M o M' h => by obtain ⟨d, e, f, r, rfl, _⟩ := h; rfl) (fun os M o M' h => by
  obtain ⟨d, e, f, r, rfl, rfl, rfl, rfl, h⟩ := h
  obtain ⟨e1, h1⟩ := body d e f r h
  exact ⟨congrArg O.dat e1, h1⟩)

/-! ### rows and tables -/
abbrev tV (v : List Int) : D := .tup (v.map .int)
abbrev tM (m : List (List Int)) : D := .tup (m.map tV)
abbrev lV (v : List Int) : D := .lst (v.map .int)
abbrev lM (m : List (List Int)) : D := .lst (m.map lV)
end Ab
/-! Ab: cells lent to be read; the script; members. -/
namespace Ab
open PySem PySem.Spec PyProof.Rows L2
variable [TabCtx]

/-! ### a cell seen as data -/
mutual
inductive View (M : Mem) : O → D → Prop
  | dat (d : D) : View M (.dat d) d
  | cel {k : Nat} {os : List O} {ds : List D} (h : M[k]? = some (some os)) (r : Views M os ds) : View M (.adr k) (.lst ds)
inductive Views (M : Mem) : List O → List D → Prop
  | nil : Views M [] []
  | cons {o : O} {os : List O} {d : D} {ds : List D} (h : View M o d) (r : Views M os ds) : Views M (o :: os) (d :: ds)
end
mutual
inductive NoL : D → Prop
  | non : NoL .non
  | bl (b : Bool) : NoL (.bl b)
  | int (i : Int) : NoL (.int i)
  | str (s : Str) : NoL (.str s)
  | tup {ds : List D} (h : NoLs ds) : NoL (.tup ds)
inductive NoLs : List D → Prop
  | nil : NoLs []
  | cons {d : D} {ds : List D} (h : NoL d) (r : NoLs ds) : NoLs (d :: ds)
end
theorem NoLs.all : ∀ {ds : List D}, (∀ d ∈ ds, NoL d) → NoLs ds
  | [], _ => .nil
  | _ :: _, h => .cons (h _ List.mem_cons_self) (NoLs.all fun d hd => h d (List.mem_cons_of_mem _ hd))
theorem NoL.ints (v : List Int) : NoL (tV v) := .tup (NoLs.all fun d hd => by
  obtain ⟨i, _, rfl⟩ := List.mem_map.mp hd
  exact .int i)
theorem NoL.mat (m : List (List Int)) : NoL (tM m) := .tup (NoLs.all fun d hd => by
  obtain ⟨i, _, rfl⟩ := List.mem_map.mp hd
  exact NoL.ints i)
theorem Views.ints {M : Mem} : ∀ v : List D, Views M (v.map .dat) v
  | [] => .nil
  | _ :: v => .cons (.dat _) (Views.ints v)
mutual
theorem rep_back {I I' : Hp} (f : ∀ a xs, I a = some (.tup xs) → I' a = some (.tup xs)) : ∀ {d : D} {v : V}, NoL d → Rep I d v → Rep I' d v
  | _, _, .non, .non => .non
  | _, _, .bl _, .bl b => .bl b
  | _, _, .int _, .int i => .int i
  | _, _, .str _, .str s => .str s
  | _, _, .tup n, .tup h r => .tup (f _ _ h) (reps_back f n r)
theorem reps_back {I I' : Hp} (f : ∀ a xs, I a = some (.tup xs) → I' a = some (.tup xs)) : ∀ {ds : List D} {vs : List V}, NoLs ds → Reps I ds vs → Reps I' ds vs
  | _, _, .nil, .nil => .nil
  | _, _, .cons n m, .cons h r => .cons (rep_back f n h) (reps_back f m r)
end
mutual
theorem view_rep {I I' H : Hp} {adr : List Addr} {M : Mem} (s : Sto I H adr M) (e : Ex I I') (f : ∀ (k : Nat) (a : Addr) (os : List O), adr[k]? = some a → M[k]? = some (some os) → I' a = H a) : ∀ {o : O} {d : D} {v : V}, View M o d → Vo I adr o v → Rep I' d v
  | _, _, _, .dat d, h => Rep.mono e h
  | _, _, _, .cel (k := k) hm r, h => by
    obtain ⟨a, h1, rfl⟩ := h
    obtain ⟨_, xs, h2, h3⟩ := s.cell k a _ h1 hm
    exact .lst ((f k a _ h1 hm).trans h2) (views_rep s e f r h3)
theorem views_rep {I I' H : Hp} {adr : List Addr} {M : Mem} (s : Sto I H adr M) (e : Ex I I') (f : ∀ (k : Nat) (a : Addr) (os : List O), adr[k]? = some a → M[k]? = some (some os) → I' a = H a) : ∀ {os : List O} {ds : List D} {vs : List V}, Views M os ds → Vs I adr os vs → Reps I' ds vs
  | _, _, _, .nil, .nil => .nil
  | _, _, _, .cons h r, .cons q w => .cons (view_rep s e f h q) (views_rep s e f r w)
end
open Classical in
theorem ev_lend {R : Rel} {E : List O} {M M1 : Mem} {os : List O} {ds : List D} {d : D} {ta : TA} {E' : XK} (ha : Ea ta E M os M1) (hv : Views M1 os ds) (hR : R (ds.map .dat) [] (.dat d) []) (hn : NoL d) :
    Ev (tCall (spR R) [] E' ta) E M (.dat d) M1 := fun I H adr σ Q s q => ha I H adr σ _ s fun vs I1 H1 adr1 s1 g1 v1 => by
  let L : Addr → Prop := fun p => ∃ (k : Nat) (os : List O), adr1[k]? = some p ∧ M1[k]? = some (some os)
  let J : Hp := fun p => if L p then H1 p else I1 p
  have eJ : Ex I1 J := fun p o h => by
    show (if L p then H1 p else I1 p) = some o
    split
    · exact s1.ex p o h
    · exact h
  have eH : Ex J H1 := fun p o h => by
    have h' : (if L p then H1 p else I1 p) = some o := h
    split at h'
    · exact h'
    · exact s1.ex p o h'
  have fJ : ∀ (k : Nat) (a : Addr) (os : List O), adr1[k]? = some a → M1[k]? = some (some os) → J a = H1 a := fun k a os h1 h2 => if_pos ⟨k, os, h1, h2⟩
  have aJ : ∀ b u, J b = some u → NT u := fun b u h => by
    have h' : (if L b then H1 b else I1 b) = some u := h
    split at h'
    · rename_i hl
      obtain ⟨k, os, h1, h2⟩ := hl
      obtain ⟨_, xs, h4, _⟩ := s1.sto.cell k b os h1 h2
      rw [h4] at h'
      cases h'
      exact NT.lst
    · exact s1.sto.amb.nt b u h'
  show spR R (vs ++ []) H1 Q E'
  rw [List.append_nil]
  refine ⟨J, [], ds.map .dat, [], .dat d, [], hR, eH, ⟨rfl, List.nodup_nil, fun k a os h1 _ => by simp at h1, fun k a h1 => by simp at h1, s1.sto.amb.same aJ⟩, Vs.reps (views_rep s1.sto eJ fJ hv v1), fun z I2 H2 adr2 ex2 sto2 g2 v2 => ?_⟩
  let I3 : Hp := fun p => if L p then none else I2 p
  have nI : ∀ p, L p → I1 p = none := fun p hp => by
    obtain ⟨k, os, h1, h2⟩ := hp
    exact (s1.sto.cell k p os h1 h2).1
  have e3 : Ex I1 I3 := fun p o h => by
    have hp : ¬ L p := fun hl => by rw [nI p hl] at h; cases h
    show (if L p then none else I2 p) = some o
    rw [if_neg hp]
    exact g2.ex p o (eJ p o h)
  have e3H : Ex I3 H2 := fun p o h => by
    have h' : (if L p then none else I2 p) = some o := h
    split at h'
    · cases h'
    · exact ex2 p o h'
  have keep : ∀ p u, H1 p = some u → NT u → H2 p = some u := fun p u h n => g2.keep p u h n (by simp)
  have g3 : Grow I1 H1 adr1 I3 H2 adr1 := ⟨e3, ⟨[], by simp, by simp⟩, fun p u h n _ => keep p u h n, g2.dom, fun p u h n h2 h3 => by
    have hp : ¬ L p := fun hl => by
      obtain ⟨k, os, h4, _⟩ := hl
      exact h3 (List.mem_of_getElem? h4)
    show (if L p then none else I2 p) = none
    rw [if_neg hp]
    exact g2.out p u h n (by show (if L p then H1 p else I1 p) = none; rw [if_neg hp]; exact h2) (by simp), g2.code⟩
  have t3 : Sto I3 H2 adr1 M1 := ⟨s1.sto.len, s1.sto.nd, fun k a os h1 h2 => by
    obtain ⟨_, xs, h4, h5⟩ := s1.sto.cell k a os h1 h2
    exact ⟨if_pos ⟨k, os, h1, h2⟩, xs, keep a _ h4 NT.lst, h5.ext e3⟩, fun k a h => by
    obtain ⟨u, hu, n⟩ := s1.sto.dom k a h
    exact ⟨u, keep a u hu n, n⟩, sto2.amb.same fun b u h => by
    have h' : (if L b then none else I2 b) = some u := h
    split at h'
    · cases h'
    · exact sto2.amb.nt b u h'⟩
  refine q z I3 H2 adr1 (s1.mono g3 e3H t3) (g1.trans g3) (rep_back (fun a xs h => ?_) hn v2)
  have hp : ¬ L a := fun hl => by
    obtain ⟨k, os, h1, h2⟩ := hl
    obtain ⟨_, ys, h4, _⟩ := s1.sto.cell k a os h1 h2
    have h5 := g2.ex a _ ((fJ k a os h1 h2).trans h4)
    rw [h] at h5
    cases h5
  show (if L a then none else I2 a) = _
  rw [if_neg hp]
  exact h
section
variable {C : Cc} {E E1 E2 E' : List O} {M M1 M2 M3 M' : Mem} {o o1 o2 o3 : O} {os : List O} {e a b c : Expr} {es : List Expr} {pos pos' p p2 pos2 : Pos} {d d1 d2 : D} {i j : Int} {n : Nat} {k k' : Bool} {r : Out} {body : List Stmt} {x y : Str} {ds : List D}
theorem EV.lend {R : Rel} {kf : Nat} {ds : List D} (F : FN C.g x kf R) (ha : EA C (e :: es) E M os M1) (hv : Views M1 os ds) (hR : R (ds.map .dat) [] (.dat d) []) (hn : NoL d) (hk : Nat.ble kf C.k = true := by rfl)
    (hg : C.sc.names.lookup x = some .globalImplicit := by rfl) (hdb : (x == ("__debug__" : Str)) = false := by decide) (he : ∀ env, starEach (e :: es) env = (false, eval e env) :: starEach es env := by intro _; rfl) (hpl : ∀ env, (backTo pos (starEach es env)).any (·.1) = false := by intro _; rfl) :
    EV C (.Call (.Name x p) (e :: es) [] pos) E M (.dat d) M1 := by
  obtain ⟨f, fd, ps, F, hm, hkp, hb⟩ := F
  refine EV.mk (t := tCall (spR R) [] E0 (UA C (e :: es))) (fun X hX => ?_) (ev_lend ha hv hR hn)
  refine pe_call (k := kf) (f := f) (fd := fd) (ps := ps) (by rw [hX.P, hX.w, hX.K, hX.mg, hX.base]; exact F) (hX.room.mono (Nat.le_of_ble_eq_true hk)) (by show X.env.scope.names.lookup x = _; rw [hX.sc]; exact hg) (by rw [hX.mg]; exact hm) (by rw [hX.K]; exact hkp) (by rw [hX.K]; exact hb) .nil pass0 (ua hX _) hdb (he X.env) (hpl X.env)
/-- a def that makes cells -/
theorem EV.callM {R : Rel} {kf : Nat} {ds : List D} {o0 : O} {M0' : Mem} (F : FN C.g x kf R) (ha : EA C (e :: es) E M (ds.map .dat) M1) (hR : R (ds.map .dat) [] o0 M0') (hq : o = o0.ren (fun k => M1.length + k)) (hM : M2 = M1 ++ M0'.map fun c => c.map fun ps => ps.map (·.ren fun k => M1.length + k)) (hk : Nat.ble kf C.k = true := by rfl)
    (hg : C.sc.names.lookup x = some .globalImplicit := by rfl) (hdb : (x == ("__debug__" : Str)) = false := by decide) (he : ∀ env, starEach (e :: es) env = (false, eval e env) :: starEach es env := by intro _; rfl) (hpl : ∀ env, (backTo pos (starEach es env)).any (·.1) = false := by intro _; rfl) :
    EV C (.Call (.Name x p) (e :: es) [] pos) E M o M2 := by
  have er : rho [] M1.length = fun k => M1.length + k := by
    funext k
    show M1.length + (k - 0) = _
    rw [Nat.sub_zero]
  subst hq hM
  rw [← er]
  refine EV.callG (ι := []) F ha hR (by rw [ren_dat]) ⟨rfl, List.nodup_nil, ?_, fun i k h => by simp at h, fun k os h => ?_⟩ hk hg hdb he hpl
  · rw [List.length_append, List.length_map]
    rfl
  · by_cases hk : k < M1.length
    · rw [List.getElem?_append_left hk] at h
      exact .inl ⟨by simp, h⟩
    · rw [List.getElem?_append_right (Nat.le_of_not_lt hk), List.getElem?_map] at h
      cases hc : M0'[k - M1.length]? with
      | none => rw [hc] at h; cases h
      | some c =>
        rw [hc] at h
        cases c with
        | none => cases h
        | some ps =>
          refine .inr ⟨k - M1.length, ps, ?_, .inr (Nat.zero_le _), hc, (Option.some.inj (Option.some.inj h)).symm⟩
          rw [er]
          show M1.length + (k - M1.length) = k
          omega

/-! ### the script -/
def Scr (K : PySem.W.Frag) (o : O) (xs : List V) : Prop := ∃ (a : Addr) (u : Option HO), o = .scr a u ∧ ∀ H : Hp, (∀ h, u = some h → H a = some h) → SqL K H a xs
theorem scr_sq {K : PySem.W.Frag} {xs : List V} {I H : Hp} {adr : List Addr} {v : V} (h : Scr K o xs) (hv : Vo I adr o v) (e : Ex I H) : ∃ a, v = .ref a ∧ SqL K H a xs := by
  obtain ⟨a, u, rfl, q⟩ := h
  exact ⟨a, hv.1, q H fun o' ho => e _ _ (hv.2 o' ho)⟩
theorem reps_ints {I : Hp} : ∀ ns : List Int, Reps I (ns.map D.int) (ns.map V.int)
  | [] => .nil
  | n :: ns => .cons (.int n) (reps_ints ns)
theorem EV.ixS {ns : List Int} (ha : EV C a E M o M1) (hb : EV C b E M1 (.dat (.int i)) M') (hs : Scr C.g.K o (ns.map V.int)) (h : atI (ns.map D.int) i = some d) (hp : PlainIx b := by exact fun _ _ => rfl) : EV C (.Subscript a b pos) E M (.dat d) M' :=
  EV.mk (t := tOp (rIx C.g.K) (UE C a) (UE C b)) (fun X hX => by
    have := pe_ix (pos := pos) ix_seq (ue hX a) (ue hX b) hp
    rw [hX.K] at this
    exact this) (ev_op ha hb fun I H adr σ E v w Q s hv hw q => by
      cases rep_int hw
      obtain ⟨p, rfl, hq⟩ := scr_sq hs hv s.ex
      obtain ⟨x, e1, e2⟩ := reps_atI (reps_ints (I := I) ns) h
      exact .inl ⟨p, _, i, x, rfl, rfl, hq, e1, q x I H adr s Grow.refl e2⟩)
theorem EV.slS {ns : List Int} {lo hi : Option Expr} {l u : Option Int} (ha : EV C a E M o M1) (hl : EO C lo E M1 l M2) (hh : EO C hi E M2 u M') (hs : Scr C.g.K o (ns.map V.int)) : EV C (.Subscript a (.Slice lo hi none p) pos) E M (.dat (.lst (cutD (ns.map D.int) l u))) M' :=
  EV.mk (t := tSl (rSlL C.g.K) (UE C a) (UO C lo) (UO C hi)) (fun X hX => by
    have := pe_slice (p2 := p) (pos := pos) (sl_list (X := X)) (ue hX a) (uo hX lo) (uo hX hi)
    rw [hX.K] at this
    exact this) fun I H adr σ Q s q => ha I H adr σ _ s fun v I1 H1 adr1 s1 g1 v1 => hl I1 H1 adr1 σ _ s1 fun I2 H2 adr2 s2 g2 => hh I2 H2 adr2 σ _ s2 fun I3 H3 adr3 s3 g3 => by
      obtain ⟨b, rfl, hq⟩ := scr_sq hs ((v1.mono g2).mono g3) s3.ex
      refine ⟨b, _, rfl, hq, fun p hp => ?_⟩
      obtain ⟨s4, g4, r4⟩ := s3.lst hp (reps_cut (reps_ints (I := I3) ns) l u)
      exact q _ _ _ _ s4 (((g1.trans g2).trans g3).trans g4) r4

/-! ### members -/
def inI (i : Int) (ns : List Int) : Bool := ns.any fun n => n == i
theorem inV_ints {i : Int} : ∀ ns : List Int, inV (.int i) (ns.map V.int) = inI i ns
  | [] => rfl
  | n :: ns => by
    show (eqV (.int n) (.int i) || inV (.int i) (ns.map V.int)) = (n == i || inI i ns)
    rw [inV_ints ns]
    rfl
theorem flat_ints (ns : List Int) : (ns.map V.int).all flatV = true := by
  rw [List.all_map, List.all_eq_true]
  intro x _
  rfl
theorem CS.inI {ns : List Int} : CS C .In (.dat (.int i)) (.dat (.lst (ns.map .int))) M (.dat (.bl (inI i ns))) M := ⟨rIn C.g.K false, fun X hX => by
  have := op_in_seq (X := X)
  rw [hX.K] at this
  exact this, fun I H adr σ E v w Q s hv hw q => by
  cases rep_int hv
  cases (show Rep I (.lst (ns.map .int)) w from hw) with
  | @lst p xs _ hp hr =>
    have e := reps_int hr
    subst e
    refine ⟨p, _, rfl, .inl (.inl (.inl (s.ex _ _ hp))), rfl, flat_ints ns, ?_⟩
    show Q (.bl (inV _ _)) H
    rw [inV_ints]
    exact q _ I H adr s Grow.refl (.bl _)⟩
theorem CS.notInI {ns : List Int} : CS C .NotIn (.dat (.int i)) (.dat (.lst (ns.map .int))) M (.dat (.bl (!Ab.inI i ns))) M := ⟨rIn C.g.K true, fun X hX => by
  have := op_notIn_seq (X := X)
  rw [hX.K] at this
  exact this, fun I H adr σ E v w Q s hv hw q => by
  cases rep_int hv
  cases (show Rep I (.lst (ns.map .int)) w from hw) with
  | @lst p xs _ hp hr =>
    have e := reps_int hr
    subst e
    refine ⟨p, _, rfl, .inl (.inl (.inl (s.ex _ _ hp))), rfl, flat_ints ns, ?_⟩
    show Q (.bl (!inV _ _)) H
    rw [inV_ints]
    exact q _ I H adr s Grow.refl (.bl _)⟩
end
end Ab
/-! Ab: enumerate over a tuple. -/
namespace Ab
open PySem PySem.Spec PyProof.Rows L2
variable [TabCtx]

theorem enum_new1 {v : Value} {ob : Obj} {Ho : Heap → Prop} (B : Begins v ob Ho) :
    Meets (Builtin.«enumerate.__new__» ⟨[.type "enumerate", v], []⟩) (fun _ R s => Ho s.heap ∧ R (.ok (.ret (.ref (s.heap.push ob).objs.size))) { s with heap := (s.heap.push ob).push { cls := .type "enumerate", data := .fields #[.none, .bool false, .ref s.heap.objs.size, rawInt 0, .none, .none] } }) :=
  .of_wp fun prog w A R s h => by
    obtain ⟨hp, gl, d, tk, os⟩ := s
    obtain ⟨h1, h⟩ := h
    have hsub := sub_enumerate
    have q1 : ∀ {A' : Around} {E' : Value → Shared → Prop} {Q' : Value → Shared → Prop}, Q' (.ref hp.objs.size) ⟨hp.push ob, gl, d, tk, os⟩ → wpAny (model prog w) A' (pyIter v) Q' E' ⟨hp, gl, d, tk, os⟩ := fun q => B.iter prog w _ _ ⟨hp, gl, d, tk, os⟩ _ h1 q
    wp_walk using q1
    refine wpAny_stack_any fun st => wpAny_pure ?_
    split
    · rename_i cc _ _ _ _ _
      cases (cc == Value.type "enumerate") <;> (wp_walk using q1; exact ⟨_, rfl, h⟩)
    · wp_walk using q1
      exact ⟨_, rfl, h⟩
section
variable {prog : Program} {w : World} {A : Around} {E : Value → Shared → Prop} {s : Shared}
theorem enum_call1 {v : Value} {ob : Obj} {Ho : Heap → Prop} {Q : Value → Shared → Prop} (B : Begins v ob Ho) (h1 : Ho s.heap)
    (h : ∀ h', IsEnum h' (s.heap.objs.size + 1) s.heap.objs.size 0 .none → h'.get? s.heap.objs.size = some ob → (∀ b o, s.heap.get? b = some o → h'.get? b = some o) → Q (.ref (s.heap.objs.size + 1)) { s with heap := h' }) : wpAny (model prog w) A (call (.type "enumerate") [v]) Q E s := by
  refine callType_new F.called_enumerate (by decide) (F.typeCall_enumerate_1 _) (F.newCall_enumerate_1 _) (fun obj => F.args_object_init_2 obj _) F.entry_enumerate_new (enum_new1 B) ⟨h1, ?_⟩
  have hz : (s.heap.push ob).objs.size = s.heap.objs.size + 1 := Heap.size_push ..
  show _ ∧ _
  rw [hz]
  have he : IsEnum ((s.heap.push ob).push { cls := .type "enumerate", data := .fields #[.none, .bool false, .ref s.heap.objs.size, rawInt 0, .none, .none] }) (s.heap.objs.size + 1) s.heap.objs.size 0 .none := by
    have z := Heap.get?_push_size (s.heap.push ob) (o := { cls := .type "enumerate", data := .fields #[.none, .bool false, .ref s.heap.objs.size, rawInt 0, .none, .none] }) rfl
    rw [hz] at z
    exact z
  exact ⟨⟨_, he, rfl⟩, h _ he (Heap.get?_push_of_some _ (Heap.get?_push_size _ B.free)) fun b o x => Heap.get?_push_of_some _ (Heap.get?_push_of_some _ x)⟩
end
def IteT (K : PySem.W.Frag) (a : Addr) : It :=
  ⟨fun i H => ∃ (xs : List V) (x : V), SqT K H a xs ∧ xs[i]? = some x, fun i H v H' => ∃ T x, v = .ref T ∧ H T = none ∧ H' = upd H T (.tup [.int (i : Nat), x]) ∧ ∀ xs, SqT K H a xs → xs[i]? = some x, fun i H => ∃ xs : List V, SqT K H a xs ∧ xs.length = i⟩
theorem apart_t {h : Heap} {a it : Addr} {i : Nat} {its : Array Value} (p : h.IsTuple a its) (q : h.IsTupleIter it a i) : a ≠ it := fun e => by
  subst e
  obtain ⟨o1, e1, c1, _⟩ := p
  obtain ⟨o2, e2, c2, _⟩ := q
  rw [e1] at e2
  cases e2
  rw [c1] at c2
  exact absurd c2 (by decide)
theorem apart_e {h : Heap} {a e it : Addr} {i : Int} {its : Array Value} {old : Value} (p : h.IsTuple a its) (q : IsEnum h e it i old) : e ≠ a := fun z => by
  subst z
  obtain ⟨o1, e1, c1, _⟩ := p
  have q' : h.get? e = some _ := q
  rw [e1] at q'
  cases q'
  exact absurd (show Value.type "enumerate" = Value.type "tuple" from c1) (by decide)
theorem turn_enumT {P : Program} {w : World} {K : PySem.W.Frag} {elts : List Expr} {kk : Nat} {tpos : Pos} (a e it : Addr) :
    Turn P w K (.Tuple elts kk tpos) (IteT K a) [e, it] e (fun i h => (∃ old, IsEnum h e it ((i : Nat) : Int) old) ∧ h.IsTupleIter it a i ∧ e ≠ it) where
  mem := by simp
  obj := fun i h st b hb => by
    obtain ⟨⟨old, he⟩, ⟨o, ho, hc, hd⟩, _⟩ := st
    rcases (show b = e ∨ b = it by simpa using hb) with z | z
    · subst z
      exact ⟨_, he, fun v q => nomatch q⟩
    · subst z
      exact ⟨o, ho, fun v q => by rw [hd] at q; cases q⟩
  keep := fun i h h' st k => let ⟨⟨old, he⟩, hi, hne⟩ := st; ⟨⟨old, k e (by simp) _ he⟩, hi.at fun o q => k it (by simp) o q, hne⟩
  item := by
    intro X hP hw hK hc i pins s σ H E I hf st hg
    subst hP hw hK
    obtain ⟨⟨old, he⟩, hit, hne⟩ := st
    obtain ⟨xs, x, hq, hx⟩ := hg
    obtain ⟨its, rv, p, hz⟩ := I.tuple hq
    obtain ⟨u, hu, ru⟩ := rv.get hx
    have pt : s.heap.IsTuple a its.toArray := p
    have hel : e < s.heap.objs.size := Heap.lt_size he
    have hil : it < s.heap.objs.size := by obtain ⟨_, q, _⟩ := hit; exact Heap.lt_size q
    have hlen : i < its.toArray.size := by
      have := (List.getElem?_eq_some_iff.mp hu).1
      simpa using this
    have D := Draws.tuple (prog := X.prog) (w := X.w) (A := X.A.in1) (I.ok.hd hc) it a (apart_t pt hit) its.toArray
    refine wpAny_pyNext_enum_itemC D he ⟨hit, pt⟩ hlen hne (by simp [hne, apart_e pt he]) fun y h' tk hy ho hs' hT hsz hk => ?_
    have ey : y = u := by
      have hy' : its.toArray[i]? = some y := hy
      rw [List.getElem?_toArray, hu] at hy'
      exact (Option.some.inj hy').symm
    subst ey
    refine ⟨_, rfl, wpAny_letOwnedTupleGo_enum (s := { s with heap := h', toks := tk + 1 }) ho fun h'' he' sb => ?_⟩
    have hT2 : h''.get? s.heap.objs.size = some { cls := .type "tuple", data := .seq #[.int (i : Nat) tk, y] } := (sb.2 _ (Nat.ne_of_gt hel)).trans hT
    have new : ObjOk X.prog X.w (upd H s.heap.objs.size (.tup [.int (i : Nat), x])) h'' s.heap.objs.size (.tup [.int (i : Nat), x]) := ⟨by show 2 ≤ sizeLine; decide, [.int (i : Nat) tk, y], .cons ⟨_, rfl⟩ (.cons ru .nil), ⟨_, hT2, rfl, _, rfl⟩⟩
    have I1 : Inv X pins σ (upd H s.heap.objs.size (.tup [.int (i : Nat), x])) { s with heap := h'', toks := tk + 1 } :=
      I.turnedNew (ch := [e, it]) (fun b ob hb q => (sb.2 b (fun z => hb (by simp [z]))).trans (hk b ob (fun z => hb (by simp [z])) (fun z => hb (by simp [z])) q)) hf (Nat.le_refl _) new
    refine ⟨.ref s.heap.objs.size, _, I1, rfl, ⟨_, x, rfl, I.hok.fresh (Nat.le_refl _), rfl, fun ys hy => by rw [I.tuple_inj hy hq]; exact hx⟩, ⟨⟨y, ?_⟩, hs'.1.at fun o q => (sb.2 it (Ne.symm hne)).trans q, hne⟩, fun b hb => ?_⟩
    · rw [show ((i + 1 : Nat) : Int) = (i : Int) + 1 by omega]
      exact he'
    · have hb' : b < s.heap.objs.size := by
        rcases (show b = e ∨ b = it by simpa using hb) with z | z
        · exact z ▸ hel
        · exact z ▸ hil
      rw [upd_ne (Nat.ne_of_lt hb')]
      exact (hf b hb).1
  done := by
    intro X hP hw hK hc i pins s σ H E I hf st hg
    subst hP hw hK
    obtain ⟨⟨old, he⟩, hit, hne⟩ := st
    obtain ⟨xs, hq, hx⟩ := hg
    obtain ⟨its, rv, p, hz⟩ := I.tuple hq
    have pt : s.heap.IsTuple a its.toArray := p
    obtain ⟨f0, f1, f2, f3, f4, f5⟩ := hf it (by simp)
    have hl : its.toArray.size = i := by
      have := rv.length
      simp
      omega
    have D := Draws.tuple (prog := X.prog) (w := X.w) (A := X.A.in1) (I.ok.hd hc) it a (apart_t pt hit) its.toArray
    exact wpAny_pyNext_enum_endD D he ⟨hl.symm ▸ hit, pt⟩ fun h' eb => ⟨rfl, I.turned (t' := s.toks) (fun b o hb q => eb b o hb q) f0 f1 f3 f4 f5⟩
  self := fun A i s Q E st h => let ⟨⟨_, he⟩, _⟩ := st; wpAny_pyIter_enum he h
def iEnumT (K : PySem.W.Frag) (ta : TA) : TI := fun σ H R => ta σ H fun vs H1 => ∃ a xs, vs = [.ref a] ∧ SqT K H1 a xs ∧ R (IteT K a) H1
theorem pi_enumT {X : Cx} {e : Expr} {ta : TA} {p pos tpos : Pos} {elts : List Expr} {kk : Nat} (hg : Gl X "enumerate") (hm : X.mg "enumerate" = none) (ha : PA X [e] ta) (hs : starEach [e] X.env = [(false, eval e X.env)] := by rfl) : PI X (.Tuple elts kk tpos) (.Call (.Name "enumerate" p) [e] [] pos) (iEnumT X.K ta) := by
  refine ⟨fun pins s σ H R I h => Call_ (ld_blt I hg hm boot_enumerate (PyProof.Rows.callWith_type1 (thn (ha.run pos pins s σ H _ I h) fun us s1 ⟨vs, H1, I1, r1, q1⟩ => ?_) hs rfl))⟩
  obtain ⟨a, xs, ex, hq, q⟩ := q1
  subst ex
  cases r1 with
  | cons r rr =>
    cases rr
    cases r
    obtain ⟨its, rv, p', hz⟩ := I1.tuple hq
    have pt : s1.heap.IsTuple a its.toArray := p'
    refine enum_call1 (begins_tuple a its.toArray) pt fun h' he hit hk => wpAny_pyIter_enum he ?_
    have I2 : Inv X pins σ H1 { s1 with heap := h' } := I1.kept (t' := s1.toks) hk
    refine ⟨s1.heap.objs.size + 1, [s1.heap.objs.size + 1, s1.heap.objs.size], _, _, H1, rfl, I2, turn_enumT a (s1.heap.objs.size + 1) s1.heap.objs.size, ⟨⟨.none, he⟩, ⟨_, hit, rfl, rfl⟩, Nat.succ_ne_self _⟩, fun b hb => ?_, q⟩
    have hle : s1.heap.objs.size ≤ b := by
      rcases (show b = s1.heap.objs.size + 1 ∨ b = s1.heap.objs.size by simpa using hb) with z | z
      · rw [z]
        exact Nat.le_add_right _ _
      · exact Nat.le_of_eq z.symm
    exact I1.fpOk hle (I1.hok.fresh hle)
def atN (ds : List D) (i : Nat) : O := .dat (.tup [.int (i : Int), ds.getD i .non])
section
variable {C : Cc} {E : List O} {M M1 : Mem} {a : Expr} {pos p : Pos}
theorem EI.enum {ds : List D} {x : Str} {elts : List Expr} {kk : Nat} {tp : Pos} (h1 : EV C a E M (.dat (.tup ds)) M1) (hm : Bt C.g "enumerate") (hx : x = "enumerate" := by rfl) (hg : C.sc.names.lookup x = some .globalImplicit := by rfl) (hs : ∀ env, starEach [a] env = [(false, eval a env)] := by intro _; rfl) :
    EI C (.Tuple elts kk tp) (.Call (.Name x p) [a] [] pos) E M ds.length (atN ds) M1 tt := fun I H adr σ R s q => by
  subst hx
  refine ⟨iEnumT C.g.K (tCons (UE C a) tNil), fun X hX => by
    have := pi_enumT (tpos := tp) (elts := elts) (kk := kk) (p := p) (pos := pos) (X := X) (by show X.env.scope.names.lookup _ = _; rw [hX.sc]; exact hg) (by rw [hX.mg]; exact hm) (pa_cons (ue hX a) pa_nil (by rw [hs X.env]; rfl)) (hs X.env)
    rw [hX.K] at this
    exact this, h1 I H adr σ _ s fun v I1 H1 adr1 s1 g1 v1 => ?_⟩
  cases (show Rep I1 (.tup ds) v from v1) with
  | @tup p1 xs _ hp hr =>
    refine ⟨p1, xs, rfl, sqt_uniq (s1.ex _ _ hp), q _ I1 H1 adr1 s1 g1 fun I3 H3 adr3 σ3 E3 M3 s3 g3 _ => ?_⟩
    have a1 : SqT C.g.K H3 p1 xs := sqt_uniq (s3.ex _ _ (g3.ex _ _ hp))
    have l1 := hr.length
    refine ⟨⟨xs, a1, l1.symm⟩, fun n hn => ?_⟩
    have b1 : xs[n]? = some (xs[n]'(by omega)) := List.getElem?_eq_getElem _
    refine ⟨⟨xs, _, a1, b1⟩, fun z H4 hz => ?_⟩
    obtain ⟨T, y, rfl, hT, rfl, f1⟩ := hz
    obtain ⟨x', ex, rx⟩ := hr.get (atO_get hn)
    have e1 : x' = y := Option.some.inj (ex.symm.trans (f1 _ a1))
    subst e1
    obtain ⟨s4, g4, r4⟩ := s3.tup hT (.cons (.int (n : Int)) (.cons (rx.mono g3.ex) .nil))
    exact ⟨_, s4, g4, r4⟩
end
end Ab
/-! Ab: two generators, deep ==, a table of the module, texts in a tuple. -/
namespace Ab
open PySem PySem.Spec PyProof.Rows L2
variable [TabCtx]

/-! ### data as the kit's -/
mutual
inductive Py : D → PyData → Prop
  | non : Py .non .none
  | bl (b : Bool) : Py (.bl b) (.bool b)
  | int (i : Int) : Py (.int i) (.int i)
  | tup {ds : List D} {ps : List PyData} (h : Pys ds ps) : Py (.tup ds) (.tuple ps)
  | lst {ds : List D} {ps : List PyData} (h : Pys ds ps) : Py (.lst ds) (.list ps)
inductive Pys : List D → List PyData → Prop
  | nil : Pys [] []
  | cons {d : D} {ds : List D} {p : PyData} {ps : List PyData} (h : Py d p) (r : Pys ds ps) : Pys (d :: ds) (p :: ps)
end
mutual
theorem rep_dp {K : PySem.W.Frag} {I H : Hp} (e : Ex I H) : ∀ {d : D} {p : PyData} {v : V}, Py d p → Rep I d v → Dp K H v p
  | _, _, _, .non, .non => .non
  | _, _, _, .bl _, .bl b => .bl b
  | _, _, _, .int _, .int i => .int i
  | _, _, _, .tup h, .tup a r => .tup (.inl (.inl (e _ _ a))) (reps_dp e h r)
  | _, _, _, .lst h, .lst a r => .lst (.inl (.inl (e _ _ a))) (reps_dp e h r)
theorem reps_dp {K : PySem.W.Frag} {I H : Hp} (e : Ex I H) : ∀ {ds : List D} {ps : List PyData} {vs : List V}, Pys ds ps → Reps I ds vs → DpAll K H vs ps
  | _, _, _, .nil, .nil => .nil
  | _, _, _, .cons h q, .cons a r => .cons (rep_dp e h a) (reps_dp e q r)
end
def pV (v : List Int) : PyData := .tuple (v.map .int)
def pM (m : List (List Int)) : PyData := .tuple (m.map pV)
theorem pys_int : ∀ v : List Int, Pys (v.map D.int) (v.map PyData.int)
  | [] => .nil
  | x :: v => .cons (.int x) (pys_int v)
theorem py_V (v : List Int) : Py (tV v) (pV v) := .tup (pys_int v)
theorem pys_V : ∀ m : List (List Int), Pys (m.map tV) (m.map pV)
  | [] => .nil
  | r :: m => .cons (py_V r) (pys_V m)
theorem py_M (m : List (List Int)) : Py (tM m) (pM m) := .tup (pys_V m)
theorem eqv_ints : ∀ v w : List Int, PyData.eqvAll (v.map .int) (w.map .int) = decide (v = w)
  | [], [] => rfl
  | [], _ :: _ => rfl
  | _ :: _, [] => rfl
  | x :: v, y :: w => by
    show ((x == y) && PyData.eqvAll (v.map .int) (w.map .int)) = _
    rw [eqv_ints v w, Bool.eq_iff_iff]
    simp
theorem eqv_rows : ∀ m n : List (List Int), PyData.eqvAll (m.map pV) (n.map pV) = decide (m = n)
  | [], [] => rfl
  | [], _ :: _ => rfl
  | _ :: _, [] => rfl
  | x :: v, y :: w => by
    show (PyData.eqvAll (x.map .int) (y.map .int) && PyData.eqvAll (v.map pV) (w.map pV)) = _
    rw [eqv_rows v w, eqv_ints, Bool.eq_iff_iff]
    simp
theorem lay_ints : ∀ v : List Int, PyData.canLayAll0 (v.map .int) = true
  | [] => rfl
  | x :: v => by
    show (true && PyData.canLayAll0 (v.map .int)) = true
    rw [lay_ints v]
    rfl
theorem lay_rows : ∀ m : List (List Int), PyData.canLayAll0 (m.map pV) = true
  | [] => rfl
  | x :: v => by
    show (PyData.canLayAll0 (x.map .int) && PyData.canLayAll0 (v.map pV)) = true
    rw [lay_rows v, lay_ints]
    rfl
theorem dep_ints : ∀ v : List Int, PyData.depthAll (v.map .int) ≤ 1
  | [] => by decide
  | x :: v => by
    have := dep_ints v
    show max _ (PyData.depthAll (v.map .int)) ≤ 1
    have h1 : PyData.depth (.int x) ≤ 1 := by
      show (_ : Nat) ≤ 1
      first | exact Nat.zero_le _ | exact Nat.le_refl _
    omega
theorem dep_rows : ∀ m : List (List Int), PyData.depthAll (m.map pV) ≤ 2
  | [] => by decide
  | x :: v => by
    have := dep_rows v
    have h2 := dep_ints x
    show max (PyData.depthAll (x.map .int) + 1) (PyData.depthAll (v.map pV)) ≤ 2
    omega
theorem shaped_M (m : List (List Int)) : SeqAt.shaped (pM m) = true := by
  unfold SeqAt.shaped
  have h1 : (pM m).canLay0 = true := lay_rows m
  have h2 : (pM m).depth ≤ 64 := by
    have := dep_rows m
    show PyData.depthAll (m.map pV) + 1 ≤ 64
    omega
  rw [h1, decide_eq_true h2]
  rfl
section
variable {C : Cc} {E E1 E2 E' : List O} {M M1 M2 M3 M' : Mem} {o o1 o2 o3 : O} {os : List O} {e a b c tg iter elt : Expr} {es : List Expr} {pos pos' p p2 pos2 : Pos} {d d1 d2 : D} {i j : Int} {n : Nat} {k k' : Bool} {r : Out} {body : List Stmt} {x y : Str} {ds : List D}
theorem hu64 {X : Cx} (hX : CxIs C X) : X.A.units + 64 < cLine := hX.room.units
theorem CS.eqM {m m' : List (List Int)} : CS C .Eq (.dat (tM m)) (.dat (tM m')) M (.dat (.bl (decide (m = m')))) M := ⟨rEqD C.g.K, fun X hX => by
  have := op_eqD (X := X) (hu64 hX)
  rw [hX.K] at this
  exact this, fun I H adr σ E v w Q s hv hw q => by
  refine ⟨pM m, pM m', rep_dp s.ex (py_M m) hv, rep_dp s.ex (py_M m') hw, shaped_M m, shaped_M m', ?_⟩
  have e : PyData.eqv (pM m) (pM m') = decide (m = m') := eqv_rows m m'
  rw [e]
  exact q _ I H adr s Grow.refl (.bl _)⟩
/-- a scalar against another: none, bool, int, str -/
theorem CS.neNI : CS C .NotEq (.dat .non) (.dat (.int j)) M (.dat (.bl true)) M := ⟨_, fun X _ => op_ne, ro_ne (x := .non) (y := .int j) (fun _ _ h => by cases h; rfl) (fun _ _ => rep_int) rfl rfl⟩
/-! ### texts in a tuple -/
def inS (z : Str) (xs : List Str) : Bool := xs.any fun n => n == z
theorem inV_strs {z : Str} : ∀ xs : List Str, inV (.str z) (xs.map V.str) = inS z xs
  | [] => rfl
  | n :: ns => by
    show (eqV (.str n) (.str z) || inV (.str z) (ns.map V.str)) = (n == z || inS z ns)
    rw [inV_strs ns]
    rfl
theorem reps_str {I : Hp} : ∀ {ns : List Str} {xs : List V}, Reps I (ns.map .str) xs → xs = ns.map V.str
  | [], _, .nil => rfl
  | n :: ns, _, .cons h r => by
    cases h
    rw [reps_str r]
    rfl
theorem rep_str' {I : Hp} {z : Str} {v : V} (h : Rep I (.str z) v) : v = .str z := by cases h; rfl
theorem flat_txt (ns : List Str) : (ns.map V.str).all flatV = true := by
  rw [List.all_map, List.all_eq_true]
  intro x _
  rfl
theorem CS.inSt {z : Str} {ns : List Str} : CS C .In (.dat (.str z)) (.dat (.tup (ns.map .str))) M (.dat (.bl (inS z ns))) M := ⟨rIn C.g.K false, fun X hX => by
  have := op_in_seq (X := X)
  rw [hX.K] at this
  exact this, fun I H adr σ E v w Q s hv hw q => by
  cases rep_str' hv
  cases (show Rep I (.tup (ns.map .str)) w from hw) with
  | @tup p xs _ hp hr =>
    have e := reps_str hr
    subst e
    refine ⟨p, _, rfl, .inr (.inl (.inl (s.ex _ _ hp))), rfl, flat_txt ns, ?_⟩
    show Q (.bl (inV _ _)) H
    rw [inV_strs]
    exact q _ I H adr s Grow.refl (.bl _)⟩
/-! ### a table of the module with text keys -/
structure TabK (g : Pg) (x : Str) (tab : Str → Option Int) : Prop where
  ex : ∃ (dd : Addr) (es : Array DictEntry) (n : Nat), g.mg x = some (.ref dd) ∧ KDict g.K g.w dd es n ∧ ∀ z : Str, ∃ r : Option Value, PySem.W.nsIn g.K dd z = some r ∧ match tab z with
    | some i => ∃ u, r = some u ∧ RelV (.int i) u
    | none => r = none
def optI : Option Int → D
  | some i => .int i
  | none => .non
theorem get_kd {X : Cx} {dd : Addr} {es : Array DictEntry} {n : Nat} (D : KDict X.K X.w dd es n) : MtR X "dict.get" (fun v vs H Q => ∃ (z : Str) (r : Option Value) (v0 : V), v = .ref dd ∧ vs = [.str z] ∧ PySem.W.nsIn X.K dd z = some r ∧ RelV v0 (r.getD .none) ∧ Q v0 H) := by
  intro pins s σ H x xs v us Q I rx rxs h
  obtain ⟨z, r, v0, rfl, rfl, e, rv, q⟩ := h
  cases rx
  obtain ⟨u, rfl, ru⟩ := vals1 rxs
  obtain ⟨t, rfl⟩ := ru
  have mo := PySem.W.mapOf_K (prog := X.prog) (w := X.w) I.kIn D.at_ D.lit
  refine call_meetsIn PySem.F.slot_dict_get mo.typeIs PySem.F.entry_dict_get (PySem.F.args_dict_get_2 _ _) (meets_dict_get (PySem.strKind X.prog X.w) dd (PySem.strKind_is X.prog X.w z t) D.low) ⟨_, mo, ?_⟩
  rw [PySem.W.find_K D.at_ e]
  exact ⟨v0, H, I.tok _, rv, q⟩
def tKGet (dd : Addr) (n : Str → Option (Option Value)) (ta : TA) : TE := fun σ H Q => ta σ H fun xs H2 => ∃ (z : Str) (r : Option Value) (v0 : V), xs = [.str z] ∧ n z = some r ∧ RelV v0 (r.getD .none) ∧ Q v0 H2
theorem pe_kget {X : Cx} {dd : Addr} {es : Array DictEntry} {n : Nat} {ob ar : Expr} {t : TA} {apos cpos : Pos} (D : KDict X.K X.w dd es n) (ho : PE X ob (tC (.ref dd))) (ha : PA X [ar] t) (hbase : attributeBase ob "get" X.env (eval ob X.env) = eval ob X.env)
    (hfew : ((backTo cpos (starEach [ar] X.env)).all (fun x => !x.1) && (backToKw cpos (keywordEach [] X.env)).all (fun x => x.1.isSome) && decide ([ar].length + ([] : List Keyword).length + (if ([] : List Keyword).isEmpty then 0 else 1) < 30)) = true)
    (hline : (apos.endLine == cpos.line) = true) (hs : starEach [ar] X.env = (false, eval ar X.env) :: starEach [] X.env) : PE X (.Call (.Attribute ob "get" apos) [ar] [] cpos) (tKGet dd (PySem.W.nsIn X.K dd) t) :=
  ⟨fun pins s σ H Q I h => wpAny_Call_method_late hbase hfew hline rfl (thn (ho.run pins s σ H (fun x H1 => x = .ref dd ∧ tKGet dd (PySem.W.nsIn X.K dd) t σ H1 Q) I ⟨rfl, h⟩) fun v s1 ⟨x, H1, I1, r1, ex, q1⟩ => by
    subst ex
    have ev : v = Value.ref dd := r1
    subst ev
    have hA := ha.run cpos pins s1 σ H1 _ I1 q1
    refine ⟨"dict", "dict.get", PySem.F.plainAttrs_dict, PySem.F.slot_dict_get, PySem.F.type_dict_get, kd_type D I1, fun a ea => ?_, ?_⟩
    · cases ea
      exact ⟨_, I1.kIn _ _ D.at_, rfl⟩
    · rw [hs] at hA ⊢
      refine Calls.callWith_builtin (by rfl) (Calls.evalArgs_plain (thn hA fun us s2 ⟨vs, H2, I2, r2, z, r, v0, q2, q3, q4, q5⟩ => get_kd D pins s2 σ H2 (.ref dd) vs _ us Q I2 rfl r2 ⟨z, r, v0, rfl, q2, q3, q4, q5⟩)))⟩
theorem EV.dget {z : Str} {tab : Str → Option Int} {apos q : Pos} (T : TabK C.g x tab) (ha : EV C a E M (.dat (.str z)) M') (hg : C.sc.names.lookup x = some .globalImplicit := by rfl) (hdb : (x == ("__debug__" : Str)) = false := by decide)
    (hbase : ∀ env, attributeBase (.Name x q) "get" env (eval (.Name x q) env) = eval (.Name x q) env := by intro _; rfl)
    (hfew : ∀ env, ((backTo pos (starEach [a] env)).all (fun x => !x.1) && (backToKw pos (keywordEach [] env)).all (fun x => x.1.isSome) && decide ([a].length + ([] : List Keyword).length + (if ([] : List Keyword).isEmpty then 0 else 1) < 30)) = true := by intro _; rfl)
    (hline : (apos.endLine == pos.line) = true := by rfl) (hs : ∀ env, starEach [a] env = (false, eval a env) :: starEach [] env := by intro _; rfl) : EV C (.Call (.Attribute (.Name x q) "get" apos) [a] [] pos) E M (.dat (optI (tab z))) M' := by
  obtain ⟨dd, es, n, hm, D, hq⟩ := T.ex
  obtain ⟨r, hr, hv⟩ := hq z
  refine EV.mk (t := tKGet dd (PySem.W.nsIn C.g.K dd) (tCons (UE C a) tNil)) (fun X hX => by
    have D' : KDict X.K X.w dd es n := by rw [hX.K, hX.w]; exact D
    have := pe_kget (apos := apos) (cpos := pos) D' (pe_glob (v := .ref dd) (u := .ref dd) (pos := q) (by show X.env.scope.names.lookup x = _; rw [hX.sc]; exact hg) (by rw [hX.mg]; exact hm) rfl hdb) (pa_cons (ue hX a) pa_nil (hs X.env)) (hbase X.env) (hfew X.env) hline (hs X.env)
    rw [hX.K] at this
    exact this) fun I H adr σ Q s q => ha I H adr σ _ s fun v I1 H1 adr1 s1 g1 v1 => ?_
  cases rep_str' v1
  cases ht : tab z with
  | some i =>
    rw [ht] at hv q
    obtain ⟨u, rfl, hu⟩ := hv
    exact ⟨z, _, .int i, rfl, hr, hu, q _ I1 H1 adr1 s1 g1 (.int i)⟩
  | none =>
    rw [ht] at hv q
    subst hv
    exact ⟨z, _, .non, rfl, hr, rfl, q _ I1 H1 adr1 s1 g1 .non⟩
/-! ### two generators -/
theorem LC2.ev {α β : Type} (jx jy : Nat) {iter1 : Expr} {scope : Scope} {own : List (Str × Nat)} {q1 q2 : Pos} {xs : List α} {f : α → D} {ys : α → List β} {f' : β → D} {dy : α → D} {gg : α → β → D} (ok : blkC C.N C.sc scope own = true) (nd : C.N.Nodup) (ho : own.map (·.2) = [jx, jy]) (hne : jx ≠ jy)
    (h : EV C iter E M (.dat d) M') (hd : seqD d = some (xs.map f)) (hl : M.length ≤ M'.length) (hok : OkM M M') (hz : (xs.flatMap fun u => (ys u).map (gg u)).length < 100000)
    (inner : ∀ u ∈ xs, ∀ M, EV (C.blk scope) iter1 ((wipeE E [jx, jy]).set jx (.dat (f u))) M (.dat (dy u)) M ∧ seqD (dy u) = some ((ys u).map f'))
    (step : ∀ u ∈ xs, ∀ v ∈ ys u, ∀ M, EV (C.blk scope) elt (((wipeE E [jx, jy]).set jx (.dat (f u))).set jy (.dat (f' v))) M (.dat (gg u v)) M)
    (hi : C.N[jx]? = some x := by rfl) (hi' : C.N[jy]? = some y := by rfl) (hx : Loc (C.blk scope).sc x := by first | exact Or.inl rfl | exact Or.inr rfl) (hx' : Loc (C.blk scope).sc y := by first | exact Or.inl rfl | exact Or.inr rfl)
    (hf' : (C.blk scope).fn x = true ∨ (C.blk scope).sc.names.lookup x = some .local := by first | exact .inl rfl | exact .inr rfl) (hf'' : (C.blk scope).fn y = true ∨ (C.blk scope).sc.names.lookup y = some .local := by first | exact .inl rfl | exact .inr rfl)
    (hf : ∀ env x, foldedSetIterable iter env x = pure x := by intro _ _; rfl) (hf2 : ∀ env x, foldedSetIterable iter1 env x = pure x := by intro _ _; rfl) : EV C (.ListComp elt [⟨.Name x q1, iter, [], 0⟩, ⟨.Name y q2, iter1, [], 0⟩] scope pos) E M (.dat (.lst (xs.flatMap fun u => (ys u).map (gg u)))) M' := by
  have hn : (xs.map f).length = xs.length := List.length_map _
  let acc : Nat → List D := fun i => (xs.take i).flatMap fun u => (ys u).map (gg u)
  have hacc : ∀ i (h : i < xs.length), acc (i + 1) = acc i ++ (ys xs[i]).map (gg xs[i]) := fun i h => by
    show (xs.take (i + 1)).flatMap _ = (xs.take i).flatMap _ ++ _
    rw [List.take_succ_eq_append_getElem h, List.flatMap_append]
    simp
  have hle : ∀ i, (acc i).length ≤ (xs.flatMap fun u => (ys u).map (gg u)).length := fun i => by
    have e : xs.flatMap (fun u => (ys u).map (gg u)) = acc i ++ (xs.drop i).flatMap fun u => (ys u).map (gg u) := by
      show _ = (xs.take i).flatMap _ ++ _
      rw [← List.flatMap_append, List.take_append_drop]
    rw [e, List.length_append]
    omega
  have main : EV C (.ListComp elt [⟨.Name x q1, iter, [], 0⟩, ⟨.Name y q2, iter1, [], 0⟩] scope pos) E M (.adr M'.length) (M' ++ [some ((acc xs.length).map O.dat)]) := by
    refine EV.mk (fun X hX => pe_lc2 (vs1 := [jy]) hX.calm (by rw [hX.N]; exact nd) (ui hX (.Name x q1) iter) (by rw [hX.N, hX.sc]; exact blkOk_by ok) (fun i hi => by rw [ho]; simp at hi; simp [hi]) (fun s H A cl fp => ug (cx_blk hX s H scope A cl fp) (.Name x q1)) (fun s H A cl fp => up (cx_blk hX s H scope A cl fp) []) (fun s H A cl fp => ui (cx_blk hX s H scope A cl fp) (.Name y q2) iter1) (fun s H A cl fp => ug (cx_blk hX s H scope A cl fp) (.Name y q2)) (fun s H A cl fp => up (cx_blk hX s H scope A cl fp) []) (fun s H A cl fp => ue (cx_blk hX s H scope A cl fp) elt) (hf X.env) hf2) fun I H adr σ Q s q => ?_
    rw [ho]
    refine (EI.seq (tg := .Name x q1) h hd) I H adr σ _ s fun J I1 H1 adr1 s1 g1 hr Dl hD => ?_
    rw [hn] at hr
    obtain ⟨s2, g2, atD⟩ := s1.cel hD (os := []) .nil
    refine ⟨fun i μ H' => i ≤ xs.length ∧ μ = xs.length - i ∧ ∃ I3 adr3, Stt I3 H' adr3 σ E (M' ++ [some ((acc i).map O.dat)]) ∧ Grow I1 (upd H1 Dl (.lst [])) (adr1 ++ [Dl]) I3 H' adr3, ⟨xs.length, Nat.zero_le _, by omega, I1, _, s2, Grow.refl⟩, ?_⟩
    rintro i μ H3 ⟨hi3, rfl, I3, adr3, s3, g3⟩
    obtain ⟨st, go⟩ := hr I3 H3 adr3 σ E _ s3 (g2.trans g3) True.intro
    by_cases him : i < xs.length
    · obtain ⟨g0, gy⟩ := go i him
      refine .inr ⟨g0, fun H'' => ∃ I4 adr4, Stt I4 H'' adr4 σ E (M' ++ [some ((acc (i + 1)).map O.dat)]) ∧ Grow I1 (upd H1 Dl (.lst [])) (adr1 ++ [Dl]) I4 H'' adr4, fun H'' hN => ⟨xs.length - (i + 1), by omega, by omega, rfl, hN⟩, fun z H4 hy => ?_⟩
      obtain ⟨I4, s4, g4, v4⟩ := gy z H4 hy
      rw [atO_map him] at v4
      have hu : xs[i] ∈ xs := List.getElem_mem him
      generalize hxi : xs[i] = u at v4 hu
      refine (EGv.nm (C := C.blk scope) (vs := [jx, jy]) jx nd (by simp) hi hx hf') I4 H4 adr3 (wipe σ [jx, jy]) z _ (s4.wipe _) v4 fun I5 H5 adr5 σ5 s5 g5 l5 f5 => ⟨?_, ?_⟩
      · rw [wipe_eq l5 f5]
        exact wipe_eq (wipe_length _ _) fun i hi => wipe_get _ _ _ hi
      · refine (EP.nil (C := C.blk scope)) I5 H5 adr5 σ5 _ s5 fun I6 H6 adr6 s6 g6 => ?_
        rw [if_pos rfl]
        obtain ⟨hin, hdy⟩ := inner u hu (M' ++ [some ((acc i).map O.dat)])
        refine (EI.seq (tg := .Name y q2) hin hdy) I6 H6 adr6 σ5 _ s6 fun J1 I7 H7 adr7 s7 g7 hr1 => ?_
        have hn1 : ((ys u).map f').length = (ys u).length := List.length_map _
        rw [hn1] at hr1
        refine ⟨fun j κ H' => j ≤ (ys u).length ∧ κ = (ys u).length - j ∧ ∃ I8 adr8, Stt I8 H' adr8 σ5 ((wipeE E [jx, jy]).set jx (.dat (f u))) (M' ++ [some ((acc i ++ ((ys u).take j).map (gg u)).map O.dat)]) ∧ Grow I7 H7 adr7 I8 H' adr8, ⟨(ys u).length, Nat.zero_le _, by omega, I7, adr7, by rw [List.take_zero, List.map_nil, List.append_nil]; exact s7, Grow.refl⟩, ?_⟩
        rintro j κ H8 ⟨hj, rfl, I8, adr8, s8, g8⟩
        obtain ⟨st1, go1⟩ := hr1 I8 H8 adr8 σ5 _ _ s8 g8 True.intro
        by_cases hjm : j < (ys u).length
        · obtain ⟨g01, gy1⟩ := go1 j hjm
          refine .inr ⟨g01, fun H' => ∃ I9 adr9, Stt I9 H' adr9 σ5 ((wipeE E [jx, jy]).set jx (.dat (f u))) (M' ++ [some ((acc i ++ ((ys u).take (j + 1)).map (gg u)).map O.dat)]) ∧ Grow I7 H7 adr7 I9 H' adr9, fun H' hN => ⟨(ys u).length - (j + 1), by omega, by omega, rfl, hN⟩, fun z' H9 hy1 => ?_⟩
          obtain ⟨I9, s9, g9, v9⟩ := gy1 z' H9 hy1
          rw [atO_map hjm] at v9
          have hvm : (ys u)[j] ∈ ys u := List.getElem_mem hjm
          refine (EGv.nm (C := C.blk scope) (vs := [jy]) jy nd (by simp) hi' hx' hf'') I9 H9 adr8 (wipe σ5 [jy]) z' _ (s9.wipe _) v9 fun I10 H10 adr10 σ10 s10 g10 l10 f10 => ⟨?_, ?_⟩
          · rw [wipe_eq l10 f10]
            exact wipe_eq (wipe_length _ _) fun i hi => wipe_get _ _ _ hi
          · refine (EP.nil (C := C.blk scope)) I10 H10 adr10 σ10 _ s10 fun I11 H11 adr11 s11 g11 => ?_
            rw [if_pos rfl]
            have eE : (wipeE ((wipeE E [jx, jy]).set jx (.dat (f u))) [jy]).set jy (.dat (f' (ys u)[j])) = ((wipeE E [jx, jy]).set jx (.dat (f u))).set jy (.dat (f' (ys u)[j])) := List.set_set _
            rw [eE] at s11
            refine step u hu _ hvm _ I11 H11 adr11 σ10 _ s11 fun w I12 H12 adr12 s12 g12 w12 => ?_
            have gI := (((g8.trans g9).trans g10).trans g11).trans g12
            have gAll := (((((g3.trans g4).trans g5).trans g6).trans g7).trans gI)
            have hD12 : adr12[M'.length]? = some Dl := gAll.get atD
            have hc : (M' ++ [some ((acc i ++ ((ys u).take j).map (gg u)).map O.dat)])[M'.length]? = some (some ((acc i ++ ((ys u).take j).map (gg u)).map O.dat)) := by
              rw [List.getElem?_append_right (Nat.le_refl _), Nat.sub_self]
              rfl
            obtain ⟨_, vs, hx1, hx2⟩ := s12.sto.cell M'.length Dl _ hD12 hc
            have hlen := hx2.length
            have hcnt : (acc i ++ ((ys u).take j).map (gg u)).length ≤ (acc (i + 1)).length := by
              rw [hacc i him, hxi, List.length_append, List.length_append, List.length_map, List.length_map, List.length_take]
              omega
            have h3 := hle (i + 1)
            refine ⟨vs, hx1, by rw [← hlen]; exact sz_lt (by rw [List.length_map]; omega), ?_⟩
            obtain ⟨s13, g13⟩ := s12.wri hD12 hc (Vs.app hx2 (.cons w12 .nil))
            have eM : (M' ++ [some ((acc i ++ ((ys u).take j).map (gg u)).map O.dat)]).set M'.length (some ((acc i ++ ((ys u).take j).map (gg u)).map O.dat ++ [O.dat (gg u (ys u)[j])])) = M' ++ [some ((acc i ++ ((ys u).take (j + 1)).map (gg u)).map O.dat)] := by
              rw [List.set_append_right _ _ (Nat.le_refl _), Nat.sub_self, List.take_succ_eq_append_getElem hjm, List.map_append (f := gg u), ← List.append_assoc, List.map_append (f := O.dat) (l₂ := [(ys u)[j]].map (gg u))]
              rfl
            rw [eM] at s13
            exact ⟨I12, adr12, s8.mono ((((g9.trans g10).trans g11).trans g12).trans g13) s13.ex s13.sto, gI.trans g13⟩
        · have ej : j = (ys u).length := by omega
          subst ej
          refine .inl ⟨st1, I8, adr8, ?_, ((((g3.trans g4).trans g5).trans g6).trans g7).trans g8⟩
          have e1 : acc (i + 1) = acc i ++ ((ys u).take (ys u).length).map (gg u) := by rw [hacc i him, hxi, List.take_length]
          rw [e1]
          exact s3.mono ((((g4.trans g5).trans g6).trans g7).trans g8) s8.ex s8.sto
    · have e : i = xs.length := by omega
      subst e
      exact .inl ⟨st, q _ I3 H3 adr3 s3 ((g1.trans g2).trans g3) ⟨Dl, g3.get atD, rfl⟩⟩
  have e2 : acc xs.length = xs.flatMap fun u => (ys u).map (gg u) := by
    show (xs.take xs.length).flatMap _ = _
    rw [List.take_length]
  rw [e2] at main
  exact Ev.froz main rfl hl hok
end
end Ab
/-! Ab: dict displays, a text some times. -/
namespace Ab
open PySem PySem.Spec PyProof.Rows L2
variable [TabCtx]
section
variable {C : Cc} {E E1 E2 E' : List O} {M M1 M2 M3 M' : Mem} {a b c : Expr} {es : List Expr} {pos pos' p p2 pos2 : Pos} {d d1 d2 : D} {i j : Int} {n : Nat} {k k' : Bool} {x y : Str} {ds : List D}
theorem EV.dict0 : EV C (.Dict [] [] pos) E M (.dat (.dct [] [])) M :=
  EV.mk (fun _ _ => pe_dnewK) fun I H adr σ Q s q p hp => by
    obtain ⟨s2, g2⟩ := s.ext (o := .dK []) hp NT.dK
    exact q _ _ _ _ s2 g2 (.dct (kvs := []) upd_same .nil)
/-- "0" * m, m from 1 to 3 -/
def zeros (m : Int) : Str := if m = 1 then "0" else if m = 2 then "00" else "000"
theorem op_zeros {X : Cx} : OpR X (binaryOp .Mult) (fun x y H Q => ∃ m : Int, x = .str "0" ∧ y = .int m ∧ 1 ≤ m ∧ m ≤ 3 ∧ Q (.str (zeros m)) H) := by
  intro pins s σ H x y v u Q I rx ry h
  obtain ⟨m, rfl, rfl, h1, h2, q⟩ := h
  obtain ⟨t, rfl⟩ := rx
  obtain ⟨t', rfl⟩ := ry
  have hm : m = 1 ∨ m = 2 ∨ m = 3 := by omega
  rcases hm with rfl | rfl | rfl
  · exact PySem.P.mul_str (by decide) (by decide) (by decide) ⟨.str (zeros 1), H, I.kept (t' := s.toks) fun _ _ z => z, ⟨t, rfl⟩, q⟩
  · exact PySem.P.mul_str (by decide) (by decide) (by decide) ⟨by decide, .str (zeros 2), H, I.tok _, ⟨_, rfl⟩, q⟩
  · exact PySem.P.mul_str (by decide) (by decide) (by decide) ⟨by decide, .str (zeros 3), H, I.tok _, ⟨_, rfl⟩, q⟩
theorem BS.zeros (h : 1 ≤ i ∧ i ≤ 3) : BS C .Mult (.dat (.str "0")) (.dat (.int i)) M (.dat (.str (Ab.zeros i))) M := ⟨_, fun X _ => op_zeros, fun I H adr σ E v w Q s hv hw q => by
  cases rep_int hw
  cases rep_str' hv
  exact ⟨i, rfl, rfl, h.1, h.2, q _ I H adr s Grow.refl (.str _)⟩⟩
/-- {"key": b} -/
theorem EV.dict1 {z : Str} {jj : Nat} {q0 : Pos} (hb : EV C b E M (.dat d) M') : EV C (.Dict [some (.Constant (.str z) jj q0)] [b] pos) E M (.dat (.dct [.inr z] [d])) M' :=
  EV.mk (t := tDisp [(tC (.str z), UE C b)]) (fun X hX => pe_disp (pps_cons pe_str (ue hX b) pps_nil) rfl rfl (by simp) (by simp)) fun I H adr σ Q s q p hp => by
    have hi := s.ex.non hp
    have pa : p ∉ adr := fun h => by
      obtain ⟨k, hk⟩ := List.getElem?_of_mem h
      obtain ⟨u, hu, _⟩ := s.sto.dom k p hk
      rw [hp] at hu
      cases hu
    have ne0 : ∀ q u, H q = some u → q ≠ p := fun q u h => ne_of_none h hp
    have g0 : Grow I H adr I (upd H p (.dK [])) adr := ⟨Ex.refl _, ⟨[], by simp, by simp⟩, fun q u h _ _ => by rw [upd_ne (ne0 q u h)]; exact h, fun q u h n => ⟨u, by rw [upd_ne (ne0 q u h)]; exact h, n⟩, fun _ _ _ _ h _ => h, fun c q h => by rw [upd_ne (ne0 c _ h)]; exact h⟩
    have t0 : Sto I (upd H p (.dK [])) adr M := ⟨s.sto.len, s.sto.nd, fun k a os h1 h2 => by
      obtain ⟨c1, xs, c2, c3⟩ := s.sto.cell k a os h1 h2
      exact ⟨c1, xs, by rw [upd_ne (ne0 _ _ c2)]; exact c2, c3⟩, fun k a h => by
      obtain ⟨u, hu, n⟩ := s.sto.dom k a h
      exact ⟨u, by rw [upd_ne (ne0 _ _ hu)]; exact hu, n⟩, s.sto.amb.new hp⟩
    have s0 : Stt I (upd H p (.dK [])) adr σ E M := s.mono g0 (s.ex.mut hi) t0
    show tC (.str z) σ (upd H p (.dK [])) _
    show UE C b σ (upd H p (.dK [])) _
    refine hb I _ adr σ _ s0 fun v I2 H2 adr2 s2 g2 v2 => ?_
    have h2p : H2 p = some (.dK []) := g2.keep p _ upd_same NT.dK pa
    have i2p : I2 p = none := g2.out p _ upd_same NT.dK hi pa
    have p2 : p ∉ adr2 := fun h => by
      obtain ⟨nw, rfl, fr⟩ := g2.new
      rcases List.mem_append.mp h with h | h
      · exact pa h
      · exact fr p h _ upd_same NT.dK
    refine ⟨h2p, [(.inr z, v)], rfl, by show 1 ≤ 15; decide, ?_⟩
    show Q (.ref p) (upd H2 p (.dK [(.inr z, v)]))
    have e3 : Ex (upd I2 p (.dK [(.inr z, v)])) (upd H2 p (.dK [(.inr z, v)])) := s2.ex.upd
    have i3 : Ex I2 (upd I2 p (.dK [(.inr z, v)])) := Ex.new i2p
    have amb3 : Amb (upd I2 p (.dK [(.inr z, v)])) (upd H2 p (.dK [(.inr z, v)])) := ⟨fun q hq => by
      obtain ⟨ps, h1, h2, h3⟩ := s2.sto.amb.tabs q hq
      have ne : ∀ b u, H2 b = some u → (∀ zs, u ≠ .dK zs) → b ≠ p := fun b u h n z => by
        rw [z, h2p] at h
        exact n _ (Option.some.inj h).symm
      refine ⟨ps, by rw [upd_ne (ne _ _ h1 (fun _ z => by cases z))]; exact h1, h2, fun pos cv hc => ?_⟩
      obtain ⟨c, e1, e2⟩ := h3 pos cv hc
      exact ⟨c, e1, by rw [upd_ne (ne _ _ e2 (fun _ z => by unfold LamX.CodeO at z; cases z))]; exact e2⟩, fun b u h => by
      by_cases e : b = p
      · subst e
        rw [upd_same] at h
        cases h
        exact NT.dK
      · rw [upd_ne e] at h
        exact s2.sto.amb.nt b u h⟩
    have nep : ∀ (k : Nat) (a : Addr), adr2[k]? = some a → a ≠ p := fun k a h e => p2 (e ▸ List.mem_of_getElem? h)
    have t3 : Sto (upd I2 p (.dK [(.inr z, v)])) (upd H2 p (.dK [(.inr z, v)])) adr2 M' := ⟨s2.sto.len, s2.sto.nd, fun k a os h1 h2 => by
      obtain ⟨c1, xs, c2, c3⟩ := s2.sto.cell k a os h1 h2
      exact ⟨by rw [upd_ne (nep k a h1)]; exact c1, xs, by rw [upd_ne (nep k a h1)]; exact c2, c3.ext i3⟩, fun k a h => by
      obtain ⟨u, hu, n⟩ := s2.sto.dom k a h
      exact ⟨u, by rw [upd_ne (nep k a h)]; exact hu, n⟩, amb3⟩
    have g02 := g0.trans g2
    have nH : ∀ q u, H q = some u → q ≠ p := ne0
    have g3 : Grow I H adr (upd I2 p (.dK [(.inr z, v)])) (upd H2 p (.dK [(.inr z, v)])) adr2 := ⟨g02.ex.trans i3, g02.new, fun q u h n h' => by rw [upd_ne (nH q u h)]; exact g02.keep q u h n h', fun q u h n => by
      obtain ⟨u', hu, n'⟩ := g02.dom q u h n
      exact ⟨u', by rw [upd_ne (nH q u h)]; exact hu, n'⟩, fun q u h n h1 h2 => by rw [upd_ne (nH q u h)]; exact g02.out q u h n h1 h2, fun c q h => by rw [upd_ne (nH c _ h)]; exact g02.code c q h⟩
    exact q _ _ _ _ (s.mono g3 e3 t3) g3 (.dct (kvs := [(.inr z, v)]) upd_same (.cons (Rep.mono i3 (show Rep I2 d v from v2)) .nil))
end
end Ab
/-! Ab: insert, members, a list some times as a cell, least and greatest. -/
namespace Ab
open PySem PySem.Spec PyProof.Rows L2
variable [TabCtx]
section
variable {C : Cc} {E E1 E2 E' : List O} {M M1 M2 M3 M' : Mem} {o : O} {a b c : Expr} {es : List Expr} {pos pos' p p2 pos2 apos : Pos} {d d1 d2 : D} {i j : Int} {n : Nat} {k k' : Bool} {x y : Str} {ds : List D}
theorem EV.insert {ps ps1 : List O} (ho : EV C a E M (.adr n) M1) (hi : EV C b E M1 (.dat (.int i)) M2) (hv : EV C c E M2 o M3) (hm1 : M1[n]? = some (some ps1)) (hm : M3[n]? = some (some ps)) (hz : ps.length < 100000) (h0 : 0 ≤ i ∧ i < 2 ^ 63)
    (hbase : ∀ env, attributeBase a "insert" env (eval a env) = eval a env := by intro _; rfl)
    (hfew : ∀ env, ((backTo pos (starEach [b, c] env)).all (fun x => !x.1) && (backToKw pos (keywordEach [] env)).all (fun x => x.1.isSome) && decide ([b, c].length + ([] : List Keyword).length + (if ([] : List Keyword).isEmpty then 0 else 1) < 30)) = true := by intro _; rfl)
    (hline : (apos.endLine == pos.line) = true := by rfl) (hs : ∀ env, starEach [b, c] env = (false, eval b env) :: starEach [c] env := by intro _; rfl) (hs2 : ∀ env, starEach [c] env = (false, eval c env) :: starEach [] env := by intro _; rfl) (hpl : ∀ env, (backTo pos (starEach [c] env)).any (·.1) = false := by intro _; rfl) :
    EV C (.Call (.Attribute a "insert" apos) [b, c] [] pos) E M (.dat .non) (M3.set n (some (ps.take i.toNat ++ [o] ++ ps.drop i.toNat))) :=
  EV.mk (t := tBM C.g.K "list" (fun x vs H Q => ∃ (l : Addr) (xs : List V) (i : Int) (y : V), x = .ref l ∧ vs = [.int i, y] ∧ H l = some (.lst xs) ∧ xs.length < sizeLine ∧ 0 ≤ i ∧ i < 2 ^ 63 ∧ Q .non (upd H l (.lst (xs.take i.toNat ++ [y] ++ xs.drop i.toNat)))) (UE C a) (tCons (UE C b) (tCons (UE C c) tNil))) (fun X hX => by
    have := pe_bm (apos := apos) (cpos := pos) PySem.F.plainAttrs_list PySem.F.slot_list_insert PySem.F.type_list_insert (mt_insert (X := X)) (ue hX a) (pa_cons (ue hX b) (pa_cons (ue hX c) pa_nil (hs2 X.env)) (hs X.env)) (hbase X.env) (hfew X.env) hline (hs X.env) (hpl X.env)
    rw [hX.K] at this
    exact this) fun I H adr σ Q s q => ho I H adr σ _ s fun v I1 H1 adr1 s1 g1 v1 => by
      obtain ⟨p, hp, rfl⟩ := v1
      obtain ⟨_, xs1, hx1, _⟩ := s1.sto.cell n p ps1 hp hm1
      refine ⟨.inl ⟨rfl, xs1, sql_uniq hx1⟩, hi I1 H1 adr1 σ _ s1 fun u I2 H2 adr2 s2 g2 u2 => hv I2 H2 adr2 σ _ s2 fun w I3 H3 adr3 s3 g3 w3 => ?_⟩
      cases rep_int u2
      have hp3 := g3.get (g2.get hp)
      obtain ⟨_, xs, hx, hr⟩ := s3.sto.cell n p ps hp3 hm
      obtain ⟨s4, g4⟩ := s3.wri hp3 hm (Vs.app (Vs.app (Vs.take i.toNat hr) (.cons w3 .nil)) (Vs.drop i.toNat hr))
      exact ⟨p, xs, i, w, rfl, rfl, hx, by rw [← hr.length]; exact sz_lt hz, h0.1, h0.2, q _ I3 _ adr3 s4 (((g1.trans g2).trans g3).trans g4) .non⟩
theorem CS.notInSt {z : Str} {ns : List Str} : CS C .NotIn (.dat (.str z)) (.dat (.tup (ns.map .str))) M (.dat (.bl (!inS z ns))) M := ⟨rIn C.g.K true, fun X hX => by
  have := op_notIn_seq (X := X)
  rw [hX.K] at this
  exact this, fun I H adr σ E v w Q s hv hw q => by
  cases rep_str' hv
  cases (show Rep I (.tup (ns.map .str)) w from hw) with
  | @tup p xs _ hp hr =>
    have e := reps_str hr
    subst e
    refine ⟨p, _, rfl, .inr (.inl (.inl (s.ex _ _ hp))), rfl, flat_txt ns, ?_⟩
    show Q (.bl (!inV _ _)) H
    rw [inV_strs]
    exact q _ I H adr s Grow.refl (.bl _)⟩
theorem CS.inStL {z : Str} {ns : List Str} : CS C .In (.dat (.str z)) (.dat (.lst (ns.map .str))) M (.dat (.bl (inS z ns))) M := ⟨rIn C.g.K false, fun X hX => by
  have := op_in_seq (X := X)
  rw [hX.K] at this
  exact this, fun I H adr σ E v w Q s hv hw q => by
  cases rep_str' hv
  cases (show Rep I (.lst (ns.map .str)) w from hw) with
  | @lst p xs _ hp hr =>
    have e := reps_str hr
    subst e
    refine ⟨p, _, rfl, .inl (.inl (.inl (s.ex _ _ hp))), rfl, flat_txt ns, ?_⟩
    show Q (.bl (inV _ _)) H
    rw [inV_strs]
    exact q _ I H adr s Grow.refl (.bl _)⟩
/-- [..] * i, a cell -/
theorem BS.mulLN (h0 : 0 ≤ i) (h2 : i ≤ 1000) (h3 : ds.length ≤ 100) : BS C .Mult (.dat (.lst ds)) (.dat (.int i)) M (.adr M.length) (M ++ [some ((List.replicate i.toNat ds).flatten.map .dat)]) := ⟨rRep, fun X hX => op_rep, fun I H adr σ E v w Q s hv hw q => by
  cases rep_int hw
  cases (show Rep I (.lst ds) v from hv) with
  | @lst a xs _ ha hr =>
    have l1 := hr.length
    refine ⟨a, i, xs, rfl, rfl, s.ex _ _ ha, by omega, by omega, ?_, fun p hp => ?_⟩
    · have : xs.length * i.toNat ≤ 100 * 1000 := Nat.mul_le_mul (by omega) (by omega)
      exact sz_of (by omega)
    · obtain ⟨s2, g2, r2⟩ := s.cel hp (Vs.reps (hr.rep i.toNat))
      exact q _ _ _ _ s2 g2 ⟨p, r2, rfl⟩⟩
theorem EV.minL {ns : List Int} {m : Int} (h : EV C a E M (.dat (.lst (ns.map .int))) M') (h1 : m ∈ ns) (h2 : ∀ y ∈ ns, m ≤ y) (hm : Bt C.g "min") (hx : x = "min" := by rfl) (hg : C.sc.names.lookup x = some .globalImplicit := by rfl) (he : ∀ env, starEach [a] env = (false, eval a env) :: starEach [] env := by intro _; rfl) : EV C (.Call (.Name x p) [a] [] pos) E M (.dat (.int m)) M' := by
  subst hx; exact EV.bi (KS.minL h1 h2) h hm bv_min (by decide) (by decide) hg he
theorem EV.maxL {ns : List Int} {m : Int} (h : EV C a E M (.dat (.lst (ns.map .int))) M') (h1 : m ∈ ns) (h2 : ∀ y ∈ ns, y ≤ m) (hm : Bt C.g "max") (hx : x = "max" := by rfl) (hg : C.sc.names.lookup x = some .globalImplicit := by rfl) (he : ∀ env, starEach [a] env = (false, eval a env) :: starEach [] env := by intro _; rfl) : EV C (.Call (.Name x p) [a] [] pos) E M (.dat (.int m)) M' := by
  subst hx; exact EV.bi (KS.maxL h1 h2) h hm bv_max (by decide) (by decide) hg he
end
end Ab
/-! Ab: min(list, key=lambda) with keys that are pairs of ints. -/
namespace Ab
open PySem PySem.Spec PyProof.Rows L2
variable [TabCtx]
section
variable {X : Cx} {pins : List (Addr × Obj)} {σ : L2.St} {E : List O} {M : Mem} {I0 H0 II H : Hp} {adr0 adr : List Addr} {s : Shared} {f l it S : Addr} {of : Obj} {xs : List V} {ka kb : Nat → Int}
/-- an object that is known and untracked -/
structure Kn (X : Cx) (b : Addr) (o : Obj) (H : Hp) (s : Shared) : Prop where
  get : s.heap.get? b = some o
  non : H b = none
  nfr : b ∉ frs X.stack
theorem Kn.past {b : Addr} {o : Obj} {H' : Hp} {s' : Shared} (k : Kn X b o H s) (u : Un (frs X.stack) [] H H' s.heap s'.heap) : Kn X b o H' s' :=
  ⟨u.keep b o k.get k.non k.nfr (fun z => by cases z), u.free b o k.get k.non (fun z => by cases z), k.nfr⟩
theorem Kn.mv {b : Addr} {o : Obj} {s' : Shared} (k : Kn X b o H s) (u : s.heap.get? b = some o → s'.heap.get? b = some o) : Kn X b o H s' := ⟨u k.get, k.non, k.nfr⟩
theorem fpPast {b : Addr} {H' : Hp} (k : FpOk X pins H b) (h : H' b = none) : FpOk X pins H' b := ⟨h, k.2⟩
theorem turnedAt {h' : Heap} {t' : Nat} (J : Inv X pins σ H s) (k : FpOk X pins H it) (q : ∀ b o, b ≠ it → s.heap.get? b = some o → h'.get? b = some o) : Inv X pins σ H { s with heap := h', toks := t' } :=
  J.turned q k.1 k.2.1 k.2.2.2.1 k.2.2.2.2.1 k.2.2.2.2.2
/-- a call of the key -/
def KeyRun (X : Cx) (pins : List (Addr × Obj)) (σ : L2.St) (E : List O) (M : Mem) (I0 H0 : Hp) (adr0 : List Addr) (f : Addr) (of : Obj) (xs : List V) (ka kb : Nat → Int) : Prop :=
  ∀ (j : Nat) (x : V) (u : Value) (s : Shared) (II H : Hp) (adr : List Addr), xs[j]? = some x → RelV x u → Inv X pins σ H s → Stt II H adr σ E M → Grow I0 H0 adr0 II H adr → Kn X f of H s →
    wpAny (model X.prog X.w) X.A.in1 (call (.ref f) [u]) (fun v s' => ∃ p I' H' adr', v = .ref p ∧ Inv X pins σ H' s' ∧ Stt I' H' adr' σ E M ∧ Grow II H adr I' H' adr' ∧ I' p = some (.tup [.int (ka j), .int (kb j)]) ∧ Un (frs X.stack) [] H H' s.heap s'.heap) (fun _ _ => False) s
/-- the key at i is less than that at j -/
def kLess (ka kb : Nat → Int) (i j : Nat) : Prop := ka i < ka j ∨ (ka i = ka j ∧ kb i < kb j)
instance (ka kb : Nat → Int) (i j : Nat) : Decidable (kLess ka kb i j) := by unfold kLess; infer_instance
def kBest (ka kb : Nat → Int) (n i : Nat) : Prop := ∀ j, j < n → ¬ kLess ka kb j i ∧ (j < i → kLess ka kb i j)
theorem pair_lt {p pb : Addr} {a b a2 b2 : Int} (J : Inv X pins σ H s) (hp : H p = some (.tup [.int a, .int b])) (hq : H pb = some (.tup [.int a2, .int b2])) (hu : X.A.in1.units < cLine) :
    Ob.RcOp .Lt X.A.in1 s (.ref p) (.ref pb) (decide (a < a2 ∨ (a = a2 ∧ b < b2))) := by
  obtain ⟨_, its, r1, p1⟩ := (show ObjOk X.prog X.w H s.heap p (.tup [.int a, .int b]) from J.hok p _ hp)
  obtain ⟨_, its2, r2, p2⟩ := (show ObjOk X.prog X.w H s.heap pb (.tup [.int a2, .int b2]) from J.hok pb _ hq)
  cases r1 with
  | cons q1 r1 =>
  cases r1 with
  | cons q2 r1 =>
  cases r1
  cases r2 with
  | cons q3 r2 =>
  cases r2 with
  | cons q4 r2 =>
  cases r2
  obtain ⟨t1, rfl⟩ := q1
  obtain ⟨t2, rfl⟩ := q2
  obtain ⟨t3, rfl⟩ := q3
  obtain ⟨t4, rfl⟩ := q4
  obtain ⟨o1, a1, a2', n1, a3⟩ := p1
  obtain ⟨o2, b1, b2', n2, b3⟩ := p2
  have R := Ob.RcOp.tuples_lt (A := X.A.in1) (s := s) (l := p) (b := pb) (items := [Value.int a t1, Value.int b t2].toArray) (items2 := [Value.int a2 t3, Value.int b2 t4].toArray) (e := fun j => if j = 0 then (a == a2) else (b == b2)) (r := fun j => if j = 0 then decide (a < a2) else decide (b < b2))
    ⟨o1, a1, a2', n1, a3⟩ ⟨o2, b1, b2', n2, b3⟩ hu (fun j h1 h2 => by
      match j, h1, h2 with
      | 0, _, _ => exact SeqAt.EqAt.int_int _ _ _ _
      | 1, _, _ => exact SeqAt.EqAt.int_int _ _ _ _
      | n + 2, h1, _ => exact absurd (show n + 2 < 2 from h1) (by omega)) (fun j h1 h2 _ => by
      match j, h1, h2 with
      | 0, _, _ => exact Ob.RcOp.lt_int _ _ _ _
      | 1, _, _ => exact Ob.RcOp.lt_int _ _ _ _
      | n + 2, h1, _ => exact absurd (show n + 2 < 2 from h1) (by omega))
  have e : Ob.lexAt (fun j => if j = 0 then (a == a2) else (b == b2)) (fun j => if j = 0 then decide (a < a2) else decide (b < b2)) (decide ([Value.int a t1, Value.int b t2].toArray.size < [Value.int a2 t3, Value.int b2 t4].toArray.size)) 0 (min [Value.int a t1, Value.int b t2].toArray.size [Value.int a2 t3, Value.int b2 t4].toArray.size) = decide (a < a2 ∨ (a = a2 ∧ b < b2)) := by
    show (if (a == a2) = true then (if (b == b2) = true then decide (2 < 2) else decide (b < b2)) else decide (a < a2)) = _
    by_cases h1 : a = a2
    · by_cases h2 : b = b2
      · simp [h1, h2]
      · simp [h1, h2]
    · simp [h1]
  rw [e] at R
  exact R
theorem up_get {h : Heap} {c : Nat} {its : Array Value} (e : h.get? S = some (seqObj "list" its c)) (vs : Array Value) : ∃ c2, (h.update S (Obj.mapSeq fun _ => vs)).get? S = some (seqObj "list" vs c2) := ⟨_, get?_update_seq e fun _ => vs⟩
theorem min_loop {R : Result → Shared → Prop} (hh : X.A.handled = none) (hu : X.A.in1.units < cLine) (T : KeyRun X pins σ E M I0 H0 adr0 f of xs ka kb) (hl : I0 l = some (.lst xs)) (hSI : S ≠ it) (hfI : f ≠ it) (hfS : f ≠ S)
    (hR : ∀ (i : Nat) (x : V) (u : Value) (s : Shared) (II H : Hp) (adr : List Addr), xs[i]? = some x → RelV x u → kBest ka kb xs.length i → Inv X pins σ H s → Stt II H adr σ E M → Grow I0 H0 adr0 II H adr → R (.ok (.ret u)) s) :
    ∀ (r j i : Nat) (s : Shared) (II H : Hp) (adr : List Addr) (vb : Value) (pb : Addr) (c : Nat) (oI : Obj) (xb : V), xs.length - (j + 1) = r → j + 1 ≤ xs.length → Inv X pins σ H s → Stt II H adr σ E M → Grow I0 H0 adr0 II H adr → Kn X f of H s →
      Kn X S (seqObj "list" #[vb, .ref pb] c) H s → Kn X it oI H s → FpOk X pins H S → FpOk X pins H it → s.heap.IsListIter it l (j + 1) → xs[i]? = some xb → RelV xb vb → II pb = some (.tup [.int (ka i), .int (kb i)]) → i ≤ j → kBest ka kb (j + 1) i →
      codeAny (model X.prog X.w) X.A (.builtin "min.loop" ⟨[.ref it, .ref f, .ref S], []⟩) R s := by
  have nm : (toString "min" ++ toString ".loop" : String) = "min.loop" := by decide
  intro r
  induction r with
  | zero =>
    intro j i s II H adr vb pb c oI xb hr hj J st g kf kS kI fS fI hit hx rx hpb hij hb
    have eL : j + 1 = xs.length := by omega
    have hlH : H l = some (.lst xs) := st.ex _ _ (g.ex _ _ hl)
    obtain ⟨_, us, n, ru, gl⟩ := (show ObjOk X.prog X.w H s.heap l (.lst xs) from J.hok l _ hlH)
    have nlI : l ≠ it := ne_of_none hlH kI.non
    have W := Walks.list (prog := X.prog) (w := X.w) (A := X.A.in1) hh it l nlI us.toArray
    have zs : us.toArray.size = xs.length := by rw [List.size_toArray]; exact ru.length.symm
    refine codeAny_builtin PySem.F.entry_min_loop (Around.under_plainId PySem.F.plain_min_loop _ ▸ ?_)
    refine (show wpAny _ X.A.in1 (seqItems? (.ref S) >>= _) _ _ s from wpAny_bind (wpAny_seqItems kS.get rfl ?_))
    refine (show wpAny _ X.A.in1 (tryCatch (pyNext (.ref it)) _ >>= _) _ _ s from wpAny_bind (wpAny_tryCatch (W.done _ _ _ ⟨by rw [zs, ← eL]; exact hit, _, gl, rfl, n, rfl⟩ fun h1 tk1 k1 => ?_)))
    have gS1 := k1 S _ (by simpa using hSI) kS.get
    refine (show wpAny _ X.A.in1 (updateSeq S (fun _ => #[]) >>= _) _ _ _ from wpAny_bind (wpAny_updateSeq gS1 rfl (wpAny_bind (wpAny_letGo (wpAny_pure ?_)))))
    have sb := Heap.SameBut.update h1 S (Obj.mapSeq fun _ => (#[] : Array Value))
    have J1 := turnedAt (h' := h1) (t' := tk1) J fI fun b o hb e => k1 b o (by simpa using hb) e
    have J2 := turnedAt (h' := h1.update S (Obj.mapSeq fun _ => (#[] : Array Value))) (t' := tk1) J1 fS fun b o hb e => (sb.2 b hb).trans e
    exact hR i xb vb _ II H adr hx rx (eL ▸ hb) J2 st g
  | succ r ih =>
    intro j i s II H adr vb pb c oI xb hr hj J st g kf kS kI fS fI hit hx rx hpb hij hb
    have hlt : j + 1 < xs.length := by omega
    have hlH : H l = some (.lst xs) := st.ex _ _ (g.ex _ _ hl)
    obtain ⟨_, us, n, ru, gl⟩ := (show ObjOk X.prog X.w H s.heap l (.lst xs) from J.hok l _ hlH)
    have nlI : l ≠ it := ne_of_none hlH kI.non
    have W := Walks.list (prog := X.prog) (w := X.w) (A := X.A.in1) hh it l nlI us.toArray
    have zs : us.toArray.size = xs.length := by rw [List.size_toArray]; exact ru.length.symm
    refine codeAny_builtin PySem.F.entry_min_loop (Around.under_plainId PySem.F.plain_min_loop _ ▸ ?_)
    refine (show wpAny _ X.A.in1 (seqItems? (.ref S) >>= _) _ _ s from wpAny_bind (wpAny_seqItems kS.get rfl ?_))
    refine (show wpAny _ X.A.in1 (tryCatch (pyNext (.ref it)) _ >>= _) _ _ s from wpAny_bind (wpAny_tryCatch (W.item (j + 1) _ _ _ (by rw [zs]; exact hlt) ⟨hit, _, gl, rfl, n, rfl⟩ fun v h1 tk1 hv st1 k1 => ?_)))
    obtain ⟨oJ, hoJ, cJ, dJ⟩ := id st1.1
    obtain ⟨y, hy⟩ : ∃ y, xs[j + 1]? = some y := ⟨_, List.getElem?_eq_getElem hlt⟩
    have ry : RelV y v := by
      obtain ⟨v', e1, e2⟩ := ru.get hy
      have e3 : us[j + 1]? = some v := by simpa using hv
      rw [e1] at e3
      cases e3
      exact e2
    have J1 := turnedAt (h' := h1) (t' := tk1) J fI fun b o hb e => k1 b o (by simpa using hb) e
    have kf1 : Kn X f of H { s with heap := h1, toks := tk1 } := kf.mv fun e => k1 f of (by simpa using hfI) e
    have kS1 : Kn X S (seqObj "list" #[vb, .ref pb] c) H { s with heap := h1, toks := tk1 } := kS.mv fun e => k1 S _ (by simpa using hSI) e
    have kI1 : Kn X it oJ H { s with heap := h1, toks := tk1 } := ⟨hoJ, kI.non, kI.nfr⟩
    refine (show wpAny _ X.A.in1 (tryCatch (holding [v] (call (.ref f) [v])) _ >>= _) _ _ _ from wpAny_bind (wpAny_tryCatch (wpAny_holding (wpAny_mono (T (j + 1) y v _ II H adr hy ry J1 st g kf1) (fun w2 s2 he => ?_) fun _ _ hF => hF.elim))))
    obtain ⟨p, I2, H2, adr2, rfl, J2, st2, g2, hp2, un2⟩ := he
    have kf2 := kf1.past un2
    have kS2 := kS1.past un2
    have kI2 := kI1.past un2
    have fS2 := fpPast fS kS2.non
    have fI2 := fpPast fI kI2.non
    have hit2 : s2.heap.IsListIter it l (j + 1 + 1) := ⟨oJ, kI2.get, cJ, dJ⟩
    have hpb2 : I2 pb = some (.tup [.int (ka i), .int (kb i)]) := g2.ex _ _ hpb
    have RC := pair_lt J2 (st2.ex _ _ hp2) (st2.ex _ _ hpb2) hu
    refine (show wpAny _ X.A.in1 (tryCatch (holding [v, .ref p] (richCompare .Lt (.ref p) (.ref pb) >>= _)) _ >>= _) _ _ _ from wpAny_bind (wpAny_tryCatch (wpAny_holding (wpAny_bind (RC X.prog X.w _ _ ?_)))))
    refine wpAny_bind (wpAny_holding (wpAny_truthy_bool (wpAny_bind (wpAny_letGo (wpAny_pure ?_)))))
    by_cases hc : kLess ka kb (j + 1) i
    · have hd : decide (ka (j + 1) < ka i ∨ (ka (j + 1) = ka i ∧ kb (j + 1) < kb i)) = true := decide_eq_true hc
      simp only [hd, if_true]
      have sb := Heap.SameBut.update s2.heap S (Obj.mapSeq fun _ => #[v, .ref p])
      obtain ⟨c2, gS2⟩ := up_get kS2.get #[v, .ref p]
      refine wpAny_bind (wpAny_updateSeq kS2.get rfl (wpAny_bind (wpAny_letGo ?_)))
      rw [nm]
      have J3 := turnedAt (h' := s2.heap.update S (Obj.mapSeq fun _ => #[v, .ref p])) (t' := s2.toks) J2 fS2 fun b o hb e => (sb.2 b hb).trans e
      refine wpAny_pure ⟨plainId_quiet PySem.F.plain_min_loop _, ih (j + 1) (j + 1) _ I2 H2 adr2 v p c2 oJ y (by omega) hlt J3 st2 (g.trans g2) (kf2.mv fun e => (sb.2 f hfS).trans e) ⟨gS2, kS2.non, kS2.nfr⟩ (kI2.mv fun e => (sb.2 it hSI.symm).trans e) fS2 fI2
        ⟨oJ, (sb.2 it hSI.symm).trans kI2.get, cJ, dJ⟩ hy ry hp2 (Nat.le_refl _) fun j' hj' => ?_⟩
      unfold kBest kLess at *
      by_cases e : j' = j + 1
      · subst e
        omega
      · have h1 := hb j' (by omega)
        omega
    · have hd : decide (ka (j + 1) < ka i ∨ (ka (j + 1) = ka i ∧ kb (j + 1) < kb i)) = false := decide_eq_false hc
      simp only [hd, Bool.false_eq_true, if_false]
      refine wpAny_bind (wpAny_letGo ?_)
      rw [nm]
      refine wpAny_pure ⟨plainId_quiet PySem.F.plain_min_loop _, ih (j + 1) i _ I2 H2 adr2 vb pb c oJ xb (by omega) hlt J2 st2 (g.trans g2) kf2 kS2 kI2 fS2 fI2 hit2 hx rx hpb2 (by omega) fun j' hj' => ?_⟩
      by_cases e : j' = j + 1
      · subst e
        exact ⟨hc, fun z => by omega⟩
      · exact hb j' (by omega)
theorem min_call {Q : Value → Shared → Prop} {Er : Value → Shared → Prop} (hh : X.A.handled = none) (hu : X.A.in1.units < cLine) (T : KeyRun X pins σ E M I0 H0 adr0 f of xs ka kb) (hl : I0 l = some (.lst xs)) (hn : 0 < xs.length) (J : Inv X pins σ H s) (st : Stt II H adr σ E M) (g : Grow I0 H0 adr0 II H adr) (kf : Kn X f of H s)
    (hQ : ∀ (i : Nat) (x : V) (u : Value) (s : Shared) (II H : Hp) (adr : List Addr), xs[i]? = some x → RelV x u → kBest ka kb xs.length i → Inv X pins σ H s → Stt II H adr σ E M → Grow I0 H0 adr0 II H adr → Q u s) :
    wpAny (model X.prog X.w) X.A (call (.builtin "min") [.ref l] [(Str.ofString "key", .ref f)]) Q Er s := by
  have nm : (toString "min" ++ toString ".loop" : String) = "min.loop" := by decide
  have hlH : H l = some (.lst xs) := st.ex _ _ (g.ex _ _ hl)
  obtain ⟨_, us, n, ru, gl⟩ := (show ObjOk X.prog X.w H s.heap l (.lst xs) from J.hok l _ hlH)
  refine kmk_tree PySem.F.kind_min PySem.F.plain_min PySem.F.entry_min (kmk_min_key _ _) ?_
  refine (show wpAny _ X.A.in1 (Builtin.Builtins.bindParams "min" ["key", "default"] 0 ⟨[], [(Str.ofString "key", .ref f)]⟩ >>= _) _ _ s from wpAny_bind (wpAny_of_eq (show Builtin.Builtins.bindParams "min" ["key", "default"] 0 ⟨[], [(Str.ofString "key", Value.ref f)]⟩ = pure [some (.ref f), none] from rfl) (wpAny_bind (wpAny_pure ?_))))
  have isl : s.heap.IsList l us.toArray := ⟨_, gl, rfl, n, rfl⟩
  refine wpAny_bind (wpAny_pyIter_list isl (wpAny_bind (wpAny_newList ?_ (Nat.zero_le _))))
  rw [nm]
  generalize eh1 : s.heap.push { cls := .type "list_iterator", data := .fields #[.ref l, .int 0 0] } = h1
  have z1 : h1.objs.size = s.heap.objs.size + 1 := by rw [← eh1]; exact size_push' ..
  have kp1 : ∀ b o, s.heap.get? b = some o → h1.get? b = some o := fun b o e => by rw [← eh1]; exact Heap.get?_push_of_some _ e
  have gI1 : h1.get? s.heap.objs.size = some { cls := .type "list_iterator", data := .fields #[.ref l, .int 0 0] } := by rw [← eh1]; exact Heap.get?_push_size _ rfl
  generalize eh2 : h1.push (seqObj "list" #[] 0) = h2
  have kp2 : ∀ b o, h1.get? b = some o → h2.get? b = some o := fun b o e => by rw [← eh2]; exact Heap.get?_push_of_some _ e
  have gS2 : h2.get? h1.objs.size = some (seqObj "list" #[] 0) := by rw [← eh2]; exact Heap.get?_push_size _ rfl
  have eS : h1.objs.size ≠ s.heap.objs.size := by omega
  have kp : ∀ b o, s.heap.get? b = some o → h2.get? b = some o := fun b o e => kp2 b o (kp1 b o e)
  have lf : f < s.heap.objs.size := Heap.lt_size kf.get
  have ll : l < s.heap.objs.size := Heap.lt_size gl
  have nfS : f ≠ h1.objs.size := Nat.ne_of_lt (by rw [z1]; exact Nat.lt_succ_of_lt lf)
  refine wpAny_pure ⟨plainId_quiet PySem.F.plain_min_loop _, ?_⟩
  have J2 : Inv X pins σ H { s with heap := h2 } := J.kept (t' := s.toks) kp
  have nI : H s.heap.objs.size = none := J.hok.fresh (Nat.le_refl _)
  have nS : H h1.objs.size = none := J.hok.fresh (by omega)
  have fI : FpOk X pins H s.heap.objs.size := J.fpOk (Nat.le_refl _) nI
  have fS : FpOk X pins H h1.objs.size := J.fpOk (by omega) nS
  have nofr : ∀ b, s.heap.objs.size ≤ b → b ∉ frs X.stack := fun b hb z => by
    rcases List.mem_cons.mp (J.stkSub _ z) with e | e
    · exact Nat.lt_irrefl _ (Nat.lt_of_lt_of_le (e ▸ J.lt) hb)
    · exact J.nofs hb e
  have kI2 : Kn X s.heap.objs.size _ H { s with heap := h2 } := ⟨kp2 _ _ gI1, nI, nofr _ (Nat.le_refl _)⟩
  have kS2 : Kn X h1.objs.size _ H { s with heap := h2 } := ⟨gS2, nS, nofr _ (by omega)⟩
  have kf2 : Kn X f of H { s with heap := h2 } := kf.mv fun e => kp _ _ e
  have W := Walks.list (prog := X.prog) (w := X.w) (A := X.A.in1) hh s.heap.objs.size l (Nat.ne_of_lt ll) us.toArray
  have zs : us.toArray.size = xs.length := by rw [List.size_toArray]; exact ru.length.symm
  refine codeAny_builtin PySem.F.entry_min_loop (Around.under_plainId PySem.F.plain_min_loop _ ▸ ?_)
  refine (show wpAny _ X.A.in1 (seqItems? (.ref h1.objs.size) >>= _) _ _ _ from wpAny_bind (wpAny_seqItems gS2 rfl ?_))
  refine (show wpAny _ X.A.in1 (tryCatch (pyNext (.ref s.heap.objs.size)) _ >>= _) _ _ _ from wpAny_bind (wpAny_tryCatch (W.item 0 _ _ _ (by rw [zs]; exact hn) ⟨⟨_, kI2.get, rfl, rfl⟩, ⟨_, kp _ _ gl, rfl, n, rfl⟩⟩ fun v h3 tk3 hv st3 k3 => ?_)))
  obtain ⟨oJ, hoJ, cJ, dJ⟩ := id st3.1
  obtain ⟨y, hy⟩ : ∃ y, xs[0]? = some y := ⟨_, List.getElem?_eq_getElem hn⟩
  have ry : RelV y v := by
    obtain ⟨v', e1, e2⟩ := ru.get hy
    have e3 : us[0]? = some v := by simpa using hv
    rw [e1] at e3
    cases e3
    exact e2
  have J3 := turnedAt (h' := h3) (t' := tk3) J2 fI fun b o hb e => k3 b o (by simpa using hb) e
  have kf3 : Kn X f of H { s with heap := h3, toks := tk3 } := kf2.mv fun e => k3 f of (by simpa using Nat.ne_of_lt lf) e
  have kS3 : Kn X h1.objs.size (seqObj "list" #[] 0) H { s with heap := h3, toks := tk3 } := kS2.mv fun e => k3 _ _ (by simp; omega) e
  have kI3 : Kn X s.heap.objs.size oJ H { s with heap := h3, toks := tk3 } := ⟨hoJ, nI, kI2.nfr⟩
  refine (show wpAny _ X.A.in1 (tryCatch (holding [v] (call (.ref f) [v])) _ >>= _) _ _ _ from wpAny_bind (wpAny_tryCatch (wpAny_holding (wpAny_mono (T 0 y v _ II H adr hy ry J3 st g kf3) (fun w2 s2 he => ?_) fun _ _ hF => hF.elim))))
  obtain ⟨p, I4, H4, adr4, rfl, J4, st4, g4, hp4, un4⟩ := he
  have kf4 := kf3.past un4
  have kS4 := kS3.past un4
  have kI4 := kI3.past un4
  have fS4 := fpPast fS kS4.non
  have fI4 := fpPast fI kI4.non
  have sb := Heap.SameBut.update s2.heap h1.objs.size (Obj.mapSeq fun _ => #[v, .ref p])
  obtain ⟨c2, gS4⟩ := up_get kS4.get #[v, .ref p]
  refine (show wpAny _ X.A.in1 (updateSeq h1.objs.size (fun _ => #[v, .ref p]) >>= _) _ _ _ from wpAny_bind (wpAny_updateSeq kS4.get rfl ?_))
  rw [nm]
  have J5 := turnedAt (h' := s2.heap.update h1.objs.size (Obj.mapSeq fun _ => #[v, .ref p])) (t' := s2.toks) J4 fS4 fun b o hb e => (sb.2 b hb).trans e
  refine wpAny_pure ⟨plainId_quiet PySem.F.plain_min_loop _, min_loop hh hu T hl eS (Nat.ne_of_lt lf) nfS (fun i x u s II H adr a b c d e f => hQ i x u s II H adr a b c d e f) _ 0 0 _ I4 H4 adr4 v p c2 oJ y rfl hn J5 st4 (g.trans g4) (kf4.mv fun e => (sb.2 f nfS).trans e) ⟨gS4, kS4.non, kS4.nfr⟩
    (kI4.mv fun e => (sb.2 _ eS.symm).trans e) fS4 fI4 ⟨oJ, (sb.2 _ eS.symm).trans kI4.get, cJ, dJ⟩ hy ry hp4 (Nat.le_refl _) fun j' hj' => ?_⟩
  have e : j' = 0 := by omega
  subst e
  exact ⟨by unfold kLess; omega, fun h => by omega⟩
end
end Ab
/-! Ab: a lambda of one parameter as a key. -/
namespace Ab
open PySem PySem.Spec PyProof.Rows L2 NdefX LamX
variable [TabCtx]
abbrev lamC (g : Pg) (N : List Str) (scope : Scope) (k : Nat) : Cc := ⟨g, N, scope, fun _ => false, k, W0, none⟩
/-- the slots of the lambda's body -/
def lamE (N : List Str) (o : O) (cs : List O) : List O := o :: (cs ++ List.replicate (N.length - 1 - cs.length) .no)
section
variable {C : Cc} {X : Cx} {pins : List (Addr × Obj)} {σ : L2.St} {E cs : List O} {M : Mem} {I0 H0 II H : Hp} {adr0 adr : List Addr} {s : Shared} {f c' : Addr} {xs : List V} {ds : List D} {ka kb : Nat → Int} {N fr : List Str} {p : Str} {js : List Nat} {k : Nat}
  {params : Arguments} {body : Expr} {scope : Scope} {pm ctv : Value} {qual : Str}
theorem key_run (hX : CxIs C X) (hr : Room (k + 2) X.A) (SN : NScope N [p] fr scope) (hb : ∀ (pm cd ct u : Value) (q : Str) (cl : List (Str × Addr)), bindArgs (PySem.W.kla_fn "<lambda>" q params body scope cl pm cd ct) ⟨[u], []⟩ = pure [(p, u)])
    (hfree : ∀ y ∈ scope.names, y.2 = .free → X.env.scope.names.lookup y.1 = some .cell ∨ X.env.scope.names.lookup y.1 = some .free) (hfr : ∀ y ∈ fr, (y, NameKind.free) ∈ scope.names) (hjs : js.map (fun j => X.N[j]?) = fr.map some)
    (hcs : js.map (fun j => E[j]?) = cs.map some) (hc0 : H0 c' = some (CodeO c' qual)) (hxs : Reps I0 ds xs)
    (hbody : ∀ (j : Nat) (d : D), ds[j]? = some d → EV (lamC C.g N scope k) body (lamE N (.dat d) cs) M (.dat (.tup [.int (ka j), .int (kb j)])) M) :
    KeyRun X pins σ E M I0 H0 adr0 f (PySem.W.kla_obj "<lambda>" qual params body scope (cloFrom X.env.cells scope.names []) pm c' ctv) xs ka kb := by
  intro j x u s II H adr hx ru J st g kf
  have caps : Caps X (cloFrom X.env.cells scope.names []) fr js := Caps.made J.ok hfree hfr hjs
  have hcl : js.length = fr.length := by
    have := congrArg List.length hjs
    simpa using this
  have hcn : cs.length = fr.length := by
    have := congrArg List.length hcs
    simp at this
    omega
  have hc : H c' = some (CodeO c' qual) := g.code _ _ hc0
  let F : NF := ⟨"<lambda>", qual, params, [], scope, cloFrom X.env.cells scope.names [], c'⟩
  obtain ⟨d, hd, rd⟩ : ∃ d, ds[j]? = some d ∧ Rep II d x := by
    have hj : j < ds.length := by
      rw [hxs.length]
      exact (List.getElem?_eq_some_iff.mp hx).1
    obtain ⟨v, e1, e2⟩ := hxs.get (List.getElem?_eq_getElem hj)
    rw [hx] at e1
    cases e1
    exact ⟨_, List.getElem?_eq_getElem hj, e2.mono g.ex⟩
  refine wpAny_call (A := X.A.in1) ?_
  have key : codeAny (model X.prog X.w) X.A.in1 (.call (.ref f) ⟨[u], []⟩) (CR CX0 X.stack X.prog X.w H s (fun v H' => ∃ p I' adr', v = .ref p ∧ Stt I' H' adr' σ E M ∧ Grow II H adr I' H' adr' ∧ I' p = some (.tup [.int (ka j), .int (kb j)])) (fun _ _ _ => False)) s := by
    refine PySem.W.kla_callFunE hr.in1.depth kf.get rfl SN.co SN.gen rfl (codeO_at J.hok hc) ?_
    rw [hb]
    refine wpAny_pure (wpAny_newFunctionEnv SN.nocell (fun y hy => ?_) (fun h₁ hns hsb => ⟨J.nolimit.fresh _ hsb, ?_⟩) SN.kind)
    · have e : y = (p, u) := by simpa using hy
      subst e
      exact SN.par p (by simp)
    show codeAny _ _ (.expr body (envF F f s.heap.objs.size)) _ _
    have kp : ∀ b o, s.heap.get? b = some o → h₁.get? b = some o := fun b o e => hsb.extBut b o (Nat.ne_of_lt (Heap.lt_size e)) (Heap.get?_push_of_some _ e)
    have hr2 : Room k (X.A.in1.deeper (envF F f s.heap.objs.size)) := hr.in1.deeper _
    have IN : Inv (ncx CX0 X.prog X.w X.K X.mg X.base N F f X.A.in1 X.stack s H (fun _ _ _ => False)) [] (startF N [x] (js.map (slotAt σ))) H { s with heap := h₁, toks := s.toks + [(p, u)].length } :=
      inv_startN (F := F) (us := [u]) SN hr.in1.hd J.env0.in1 rfl (.cons ru .nil) (cells_of J caps) hns kp
    have hX' : CxIs (lamC C.g N scope k) (ncx CX0 X.prog X.w X.K X.mg X.base N F f X.A.in1 X.stack s H (fun _ _ _ => False)) :=
      ⟨hX.P, hX.w, hX.K, hX.mg, hX.base, rfl, rfl, rfl, hr2, passes_of rfl, takes0, fun x z => (by cases z), fun _ _ z => (by cases z), ⟨_, _, rfl, SN.gen, SN.co, rfl, rfl⟩⟩
    have st' : Stt II H adr (startF N [x] (js.map (slotAt σ))) (lamE N (.dat d) cs) M := by
      refine ⟨st.ex, st.sto, ?_, fun i o ov h1 h2 => ?_⟩
      · unfold lamE startF
        simp
        omega
      · unfold lamE at h1
        unfold startF at h2
        match i with
        | 0 =>
          simp at h1 h2
          subst h1
          subst h2
          exact rd
        | i + 1 =>
          simp only [List.map_cons, List.map_nil, List.cons_append, List.nil_append, List.getElem?_cons_succ] at h1 h2
          by_cases hi : i < cs.length
          · rw [List.getElem?_append_left hi] at h1
            rw [List.getElem?_append_left (by rw [List.length_map, hcl, ← hcn]; exact hi), List.getElem?_map] at h2
            have e := congrArg (fun l => l[i]?) hcs
            simp only [List.getElem?_map] at e
            rw [h1] at e
            cases ej : js[i]? with
            | none => rw [ej] at e; cases e
            | some jj =>
              rw [ej] at e h2
              have e1 : E[jj]? = some o := Option.some.inj e
              have e2 : slotAt σ jj = ov := Option.some.inj h2
              have hl : jj < σ.length := by
                rw [← st.len]
                exact (List.getElem?_eq_some_iff.mp e1).1
              have e3 := st.slot jj o σ[jj] e1 (List.getElem?_eq_getElem hl)
              have e4 : slotAt σ jj = σ[jj] := by
                unfold NdefX.slotAt
                rw [List.getElem?_eq_getElem hl]
              rw [← e2, e4]
              exact e3
          · rw [List.getElem?_append_right (Nat.le_of_not_lt hi)] at h1
            have e : o = .no := List.eq_of_mem_replicate (List.mem_of_getElem? h1)
            subst e
            cases ov with
            | none => rfl
            | some w => exact True.intro
    refine PySem.W.kla_codeExpr (wpAny_mono ((ue hX' body).run [] _ _ H (fun v H' => ∃ p I' adr', v = .ref p ∧ Stt I' H' adr' σ E M ∧ Grow II H adr I' H' adr' ∧ I' p = some (.tup [.int (ka j), .int (kb j)])) IN (hbody j d hd II H adr _ _ st' fun v I' H' adr' s' g' v' => ?_)) (fun v s' hq => ?_) fun e s' hq => hq)
    · cases (show Rep I' (.tup [.int (ka j), .int (kb j)]) v from v') with
      | tup h r =>
      cases r with
      | cons r1 r =>
      cases r with
      | cons r2 r =>
      cases r
      cases r1
      cases r2
      exact ⟨_, I', adr', rfl, st.mono g' s'.ex s'.sto, g', h⟩
    · obtain ⟨w', H', J', rv, q⟩ := hq
      exact ⟨w', H', J'.os, J'.bare, J'.base, J'.hok, rv, q⟩
  refine codeAny_mono key fun r s' hq => ?_
  cases r with
  | error e => exact hq.elim
  | ok fl =>
    cases fl with
    | next => exact False.elim hq
    | brk => exact False.elim hq
    | cont => exact False.elim hq
    | ret v =>
      obtain ⟨w', H', os, bare, un, hok, rv, pp, I', adr', rfl, st2, g2, hp⟩ := hq
      obtain ⟨hh, gg, d, t, os'⟩ := s'
      obtain rfl : os' = s.os := os
      exact ⟨pp, I', H', adr', rv, J.call (h' := hh) (g' := gg) (d' := d) (t' := t) (ch := []) un hok bare (fun b z => absurd z (by simp)), st2, g2, hp, un⟩
end
end Ab
/-! Ab: min with a key, large quotients, objects whose fields are cells. -/
namespace Ab
open PySem PySem.Spec PyProof.Rows L2 NdefX LamX
variable [TabCtx]
section
variable {C : Cc} {E E1 E2 E' cs : List O} {M M1 M2 M3 M' : Mem} {o o1 o2 o3 : O} {os : List O} {e a b c tg iter body : Expr} {es : List Expr} {pos pos' p kp lpos apos : Pos} {d d1 d2 : D} {ds : List D} {i j : Int} {r : Out}
theorem Stt.extN {I H H2 : Hp} {adr : List Addr} {σ : L2.St} (s : Stt I H adr σ E M) (e : ExtN H H2) (t : Tabs TabCtx.T H2) : Stt I H2 adr σ E M ∧ Grow I H adr I H2 adr := by
  have g : Grow I H adr I H2 adr := ⟨Ex.refl _, ⟨[], by simp, by simp⟩, fun q u h n _ => e q u h n, fun q u h n => ⟨u, e q u h n, n⟩, fun _ _ _ _ h _ => h, fun c q h => e _ _ h codeO_ne⟩
  refine ⟨s.mono g (fun q u h => e q u (s.ex q u h) (s.sto.amb.nt q u h)) ⟨s.sto.len, s.sto.nd, fun k a os h1 h2 => ?_, fun k a h => ?_, ⟨t, s.sto.amb.nt⟩⟩, g⟩
  · obtain ⟨c1, xs, c2, c3⟩ := s.sto.cell k a os h1 h2
    exact ⟨c1, xs, e _ _ c2 NT.lst, c3⟩
  · obtain ⟨u, hu, n⟩ := s.sto.dom k a h
    exact ⟨u, e _ _ hu n, n⟩
theorem kBest_uniq {ka kb : Nat → Int} {n i j : Nat} (h1 : kBest ka kb n i) (h2 : kBest ka kb n j) (hi : i < n) (hj : j < n) : i = j := by
  rcases Nat.lt_trichotomy i j with h | h | h
  · exact absurd ((h2 i hi).2 h) (h1 j hj).1
  · exact h
  · exact absurd ((h1 j hj).2 h) (h2 i hi).1
/-- min(list, key=lambda x: a pair) -/
theorem EV.minKey {q x : Str} {cA P : Addr} {N fr : List Str} {pn : Str} {js : List Nat} {k n : Nat} {ka kb : Nat → Int} {params : Arguments} {scope : Scope} {lb : Expr}
    (hl : EV C e E M (.dat (.lst ds)) M) (hcd : C.cd = some (.ref cA, q)) (TB : TabB C.g.base C.g.mg cA P) (hmT : (P, q ++ "<lambda>") ∈ TabCtx.T) (hu : ∀ p ∈ TabCtx.T, p.1 = P → p.2 = q ++ "<lambda>") (SN : NScope N [pn] fr scope) (hnd : ndefB C.sc scope fr = true)
    (hb : ∀ (pm cd ct u : Value) (q : Str) (cl : List (Str × Addr)), bindArgs (PySem.W.kla_fn "<lambda>" q params lb scope cl pm cd ct) ⟨[u], []⟩ = pure [(pn, u)])
    (hjs : js.map (fun j => C.N[j]?) = fr.map some) (hcs : js.map (fun j => E[j]?) = cs.map some) (hk : k + 2 ≤ C.k)
    (hbody : ∀ (j : Nat) (d : D), ds[j]? = some d → EV (lamC C.g N scope k) lb (lamE N (.dat d) cs) M (.dat (.tup [.int (ka j), .int (kb j)])) M)
    (hbest : kBest ka kb ds.length n) (hd : ds[n]? = some d) (hm : Bt C.g "min") (hx : x = "min" := by rfl) (hg : C.sc.names.lookup x = some .globalImplicit := by rfl)
    (hdef : ∀ env, defaultsOf params env = ([], []) := by intro _; rfl) (hs : ∀ env, starEach [e] env = (false, eval e env) :: starEach [] env := by intro _; rfl)
    (he : ∀ env, backTo pos (starEach [e] env) = (false, eval e env) :: backTo pos (starEach [] env) := by intro _; rfl)
    (hpl : ∀ env, (backTo pos (starEach [e] env)).any (·.1) = false := by intro _; rfl) :
    EV C (.Call (.Name x p) [e] [⟨some "key", .Lambda params lb scope lpos, kp⟩] pos) E M (.dat d) M := by
  subst hx
  refine EV.mk (t := fun σ H Q => ∃ I adr, Stt I H adr σ E M ∧ ∀ v I' H' adr', Stt I' H' adr' σ E M → Grow I H adr I' H' adr' → Vo I' adr' (.dat d) v → Q v H') (fun X hX => ⟨fun pins s σ H Q J h => ?_⟩) fun I H adr σ Q s q => ⟨I, adr, s, q⟩
  obtain ⟨I, adr, st, hq⟩ := h
  obtain ⟨hc1, hc2⟩ := hX.cd _ _ hcd
  refine wpAny_Call_Name_kw (ld_blt J (by show X.env.scope.names.lookup _ = _; rw [hX.sc]; exact hg) (by rw [hX.mg]; exact hm) boot_min ?_ (by decide) (by decide))
  refine callWith_kw ?_ (he X.env) (hpl X.env) rfl rfl
  refine thn ((pa_cons (ue hX e) pa_nil (hs X.env)).run pos pins s σ H (fun vs H1 => ∃ I1 adr1 l xs, vs = [V.ref l] ∧ Stt I1 H1 adr1 σ E M ∧ Grow I H adr I1 H1 adr1 ∧ I1 l = some (.lst xs) ∧ Reps I1 ds xs) J (hl I H adr σ _ st fun v I1 H1 adr1 s1 g1 v1 => ?_)) fun us s1 hv => ?_
  · cases (show Rep I1 (.lst ds) v from v1) with
    | lst h r => exact ⟨I1, adr1, _, _, rfl, s1, g1, h, r⟩
  obtain ⟨vs, H1, J1, rv, I1, adr1, l, xs, rfl, s1', g1, hl1, hr1⟩ := hv
  cases rv with
  | cons r0 rv =>
  cases rv
  obtain rfl := (show _ = Value.ref l from r0)
  have hfree := ndef_free hnd
  have hfree' : ∀ y ∈ scope.names, y.2 = .free → ∃ c, X.env.cells.lookup y.1 = some c := fun y hy e => by
    have z := hfree y hy e
    rw [← hX.sc] at z
    exact z.elim (fun z => J1.ok.has _ (.inl z)) fun z => J1.ok.has _ (.inr z)
  refine kws_cons (lam_make2 (T := TabCtx.T) J1 (by rw [hX.base, hX.mg]; exact TB) hc1 (by rw [hc2]; exact hmT) (by rw [hc2]; exact hu) s1'.sto.amb.tabs (hdef X.env) hfree' fun f c' pm ctv H2 s2 J2 eN T2 gf nf ff hco => kws_nil ?_)
  obtain ⟨st2, g2⟩ := s1'.extN eN T2
  have hR : Room (k + 2) X.A := hX.room.mono hk
  have hn : n < xs.length := by
    rw [← hr1.length]
    exact (List.getElem?_eq_some_iff.mp hd).1
  have T := key_run (k := k) (C := C) (E := E) (M := M) (pins := pins) (σ := σ) (I0 := I1) (H0 := H2) (adr0 := adr1) (f := f) (xs := xs) (ds := ds) (ka := ka) (kb := kb) (N := N) (fr := fr) (p := pn) (js := js) (cs := cs) (params := params) (body := lb) (scope := scope) (pm := pm) (ctv := ctv) (qual := X.env.qual ++ "<lambda>") (c' := c')
    hX hR SN hb (by rw [hX.sc]; exact hfree) (ndef_fr hnd) (by rw [hX.N]; exact hjs) hcs hco hr1 hbody
  refine min_call hR.hd (by have := hR.un; show X.A.units + 1 < cLine; omega) T hl1 (by omega) J2 st2 Grow.refl ⟨gf, nf, ff⟩ fun i x u s3 I3 H3 adr3 hx ru hb3 J3 st3 g3 => ?_
  rw [← hr1.length] at hb3
  have hi : i < ds.length := by
    rw [hr1.length]
    exact (List.getElem?_eq_some_iff.mp hx).1
  have e := kBest_uniq hb3 hbest hi (by rw [hr1.length]; exact hn)
  subst e
  obtain ⟨x', e1, e2⟩ := hr1.get hd
  rw [hx] at e1
  cases e1
  exact ⟨x, H3, J3, ru, hq x I3 H3 adr3 st3 ((g1.trans g2).trans g3) (e2.mono g3.ex)⟩
/-! ### quotients of any size -/
theorem op_fdivX {X : Cx} (hX : CxIs C X) (ns : C.g.base.NoSeer) (ht : C.g.P.given.tree = none) (hk : 32 ≤ C.k) : OpR X (binaryOp .FloorDiv) (rI (fun _ j => j ≠ 0) fun i j => .int (i.fdiv j)) := by
  intro pins s σ H x y v u Q J rx ry h
  obtain ⟨i, j, rfl, rfl, hc, q⟩ := h
  obtain ⟨t, rfl⟩ := rx
  obtain ⟨t', rfl⟩ := ry
  obtain ⟨env, l, e1, e2, e3, e4, e5⟩ := hX.fr
  refine floordiv_int hc ⟨.int (i.fdiv j), H, J.tok _, ⟨_, rfl⟩, q⟩ (.inr (PySem.PylongRoom.of J.nolimit ?_ (PySem.SeerAt.of (env := env) (l := l) ?_ ?_ ?_ e2 e3 e4 e5)))
  · have := hX.room.dp
    show X.A.depth + 100 < recursionLimit
    omega
  · have : X.base.NoSeer := by rw [hX.base]; exact ns
    exact this.keeps J.bk
  · show X.prog.given.tree = none
    rw [hX.P]
    exact ht
  · rw [J.ok.frames, e1]
theorem BS.fdivX (ns : C.g.base.NoSeer) (ht : C.g.P.given.tree = none) (hj : j ≠ 0) (hk : Nat.ble 32 C.k = true := by rfl) : BS C .FloorDiv (.dat (.int i)) (.dat (.int j)) M (.dat (.int (i.fdiv j))) M :=
  ⟨_, fun X hX => op_fdivX hX ns ht (Nat.le_of_ble_eq_true hk), ro_I hj fun _ => .int _⟩
/-! ### objects whose fields are cells -/
abbrev FPair (adr : List Addr) : List (Str × Nat) → List (Str × V) → Prop := Paired fun (f : Str × Nat) (g : Str × V) => f.1 = g.1 ∧ ∃ a, adr[f.2]? = some a ∧ g.2 = .ref a
theorem fpLook {adr : List Addr} {f : Str} {k : Nat} : ∀ {fs : List (Str × Nat)} {gs : List (Str × V)}, FPair adr fs gs → fs.lookup f = some k → ∃ a, adr[k]? = some a ∧ gs.lookup f = some (.ref a)
  | _, _, .nil, h => by cases h
  | (x, n) :: fs, (y, v) :: gs, .cons q r, h => by
    obtain ⟨e, a, e1, e2⟩ := q
    obtain rfl : x = y := e
    by_cases hx : (f == x) = true
    · rw [List.lookup_cons, hx] at h
      rw [List.lookup_cons, hx]
      cases h
      exact ⟨a, e1, by rw [show v = V.ref a from e2]⟩
    · have hx' : (f == x) = false := by simpa using hx
      rw [List.lookup_cons, hx'] at h
      rw [List.lookup_cons, hx']
      exact fpLook r h
theorem fpNone {adr : List Addr} {f : Str} : ∀ {fs : List (Str × Nat)} {gs : List (Str × V)}, FPair adr fs gs → fs.lookup f = none → gs.lookup f = none
  | _, _, .nil, h => rfl
  | (x, n) :: fs, (y, v) :: gs, .cons q r, h => by
    obtain ⟨e, _⟩ := q
    obtain rfl : x = y := e
    by_cases hx : (f == x) = true
    · rw [List.lookup_cons, hx] at h
      cases h
    · have hx' : (f == x) = false := by simpa using hx
      rw [List.lookup_cons, hx'] at h
      rw [List.lookup_cons, hx']
      exact fpNone r h
theorem fpPut {adr : List Addr} {f : Str} {k : Nat} {a : Addr} (ha : adr[k]? = some a) : ∀ {fs : List (Str × Nat)} {gs : List (Str × V)}, FPair adr fs gs → fs.lookup f = none → FPair adr (fs ++ [(f, k)]) (putF f (.ref a) gs)
  | _, _, .nil, h => .cons ⟨rfl, a, ha, rfl⟩ .nil
  | (x, n) :: fs, (y, v) :: gs, .cons q r, h => by
    obtain ⟨e, e2⟩ := q
    obtain rfl : x = y := e
    by_cases hx : (f == x) = true
    · rw [List.lookup_cons, hx] at h
      cases h
    · have hx' : (f == x) = false := by simpa using hx
      rw [List.lookup_cons, hx'] at h
      show FPair adr ((x, n) :: (fs ++ [(f, k)])) (if x = f then (x, .ref a) :: gs else (x, v) :: putF f (.ref a) gs)
      rw [if_neg (fun z => by rw [z] at hx'; simp at hx')]
      exact .cons ⟨rfl, e2⟩ (fpPut ha r h)
theorem fpLen {adr : List Addr} {fs : List (Str × Nat)} {gs : List (Str × V)} (h : FPair adr fs gs) : fs.length = gs.length := Paired.length h
theorem EV.fld {Ca : Addr} {fs : List (Str × Nat)} {f : Str} {k : Nat} (he : EV C e E M (.obj Ca fs) M') (cl : Cls C.g.K Ca) (na : NoAttr C.g.K Ca f) (hl : fs.lookup f = some k := by rfl) (hb : ∀ env, attributeBase e f env (eval e env) = eval e env := by intro _; rfl) : EV C (.Attribute e f pos) E M (.adr k) M' :=
  EV.mk (t := tFld C.g.K (UE C e) f) (fun X hX => by
    have := pe_fld (f := f) (pos := pos) (ue hX e) (hb X.env)
    rw [hX.K] at this
    exact this) fun I H adr σ Q s q => he I H adr σ _ s fun v I1 H1 adr1 s1 g1 v1 => by
      obtain ⟨p, dx, gs, rfl, h2, h3⟩ := v1
      obtain ⟨a, e1, e2⟩ := fpLook h3 hl
      exact ⟨p, Ca, dx, gs, .ref a, rfl, s1.ex _ _ h2, cl, na, e2, q _ I1 H1 adr1 s1 g1 ⟨a, e1, rfl⟩⟩
/-- the method m keeps R -/
def MT (g : Pg) (Ca : Addr) (m : Str) (k : Nat) (R : Rel) : Prop := ∃ (f : Addr) (fd : FuncData) (ps : List Str), Meth g.K Ca m f ∧ FnOk g.P g.w g.K g.mg g.base CX0 k f fd ps (spR R) ∧ Binds g.K fd ps []
theorem EV.meth {Ca : Addr} {fs : List (Str × Nat)} {m : Str} {kf : Nat} {R : Rel} {os0 : List O} {o0 : O} {M0 M0' : Mem} {ι : List Nat} (F : MT C.g Ca m kf R) (ho : EV C a E M (.obj Ca fs) M1) (ha : EA C (e :: es) E M1 os M2) (cl : Cls C.g.K Ca) (hR : R os0 M0 o0 M0')
    (hos : .obj Ca fs :: os = os0.map (·.ren (rho ι M2.length))) (mx : Mix ι M2 M0 M0' M3) (hl : fs.lookup m = none := by rfl) (hk : Nat.ble kf C.k = true := by rfl)
    (hst : ∀ env, starEach (e :: es) env = (false, eval e env) :: starEach es env := by intro _; rfl) (hpl : ∀ env, (backTo pos (starEach es env)).any (·.1) = false := by intro _; rfl)
    (ht : ∀ env, ∃ pl : Sem Bool, eval (.Call (.Attribute a m apos) (e :: es) [] pos) env = (do
      let ov ← eval a env
      standAt apos.atName
      let (f, first) ← holding [ov] (getMethod ov m pl)
      callWith pos f first (backTo pos (starEach (e :: es) env)) (backToKw pos (keywordEach [] env))) := by intro _; exact ⟨_, rfl⟩) :
    EV C (.Call (.Attribute a m apos) (e :: es) [] pos) E M (o0.ren (rho ι M2.length)) M3 := by
  obtain ⟨f, fd, ps, hm, F, hb⟩ := F
  refine EV.mk (t := tMeth Ca m (spR R) [] E0 (UE C a) (UA C (e :: es))) (fun X hX => ?_) fun I H adr σ Q s q => ?_
  · obtain ⟨pl, hpl'⟩ := ht X.env
    exact pe_meth (pl := pl) (C := Ca) (k := kf) (f := f) (fd := fd) (ps := ps) (ue hX a) (by rw [hX.K]; exact cl) (by rw [hX.K]; exact hm) (by rw [hX.P, hX.w, hX.K, hX.mg, hX.base]; exact F) (hX.room.mono (Nat.le_of_ble_eq_true hk)) (by rw [hX.K]; exact hb) .nil pass0 (ua hX _) (hst X.env) (hpl X.env) hpl'
  · refine ho I H adr σ _ s fun v I1 H1 adr1 s1 g1 v1 => ?_
    have v1' := v1
    obtain ⟨p, dx, gs, rfl, h2, h3⟩ := v1
    refine ⟨p, dx, gs, rfl, s1.ex _ _ h2, fpNone h3 hl, ha I1 H1 adr1 σ _ s1 fun vs I2 H2 adr2 s2 g2 v2 => ?_⟩
    obtain ⟨adr0, sto0, vs0, back⟩ := call_mix s2 mx
    have v3 : Vs I2 adr2 (.obj Ca fs :: os) (.ref p :: vs) := .cons (v1'.mono g2) v2
    rw [hos] at v3
    show spR R (.ref p :: (vs ++ [])) H2 Q E0
    rw [List.append_nil]
    refine ⟨I2, adr0, os0, M0, o0, M0', hR, s2.ex, sto0, vs0 _ _ v3, fun z I3 H3 adr0' ex3 sto3 g3 v4 => ?_⟩
    obtain ⟨adr3, s3, g4, dr⟩ := back I3 H3 adr0' ex3 sto3 g3
    exact q z I3 H3 adr3 s3 ((g1.trans g2).trans g4) (dr _ _ v4)
/-- a walk over a written tuple of any things -/
theorem EI.disp {kk : Nat} (h : EA C es E M os M1) (hz : os.length < 100000) : EI C tg (.Tuple es kk pos) E M os.length (fun i => os.getD i .no) M1 tt := fun I H adr σ R s q =>
  ⟨iTup C.g.K (tTup (UA C es)), fun X hX => by
    have := pi_tup (tg := tg) (pe_tup (x1 := kk) (pos := pos) (ua hX es))
    rw [hX.K] at this
    exact this, h I H adr σ _ s fun vs I1 H1 adr1 s1 g1 v1 => by
      refine ⟨by rw [← v1.length]; exact Nat.le_trans (Nat.le_of_lt hz) (by decide), fun p hp => ?_⟩
      obtain ⟨s2, g2⟩ := s1.ext (o := .tup vs) hp NT.tup
      refine ⟨p, rfl, ⟨vs, sqt_uniq upd_same⟩, q _ _ _ adr1 s2 (g1.trans g2) fun I3 H3 adr3 σ3 E3 M3 s3 g3 _ => ?_⟩
      have h3 : H3 p = some (.tup vs) := s3.ex _ _ (g3.ex _ _ upd_same)
      have v3 := (v1.mono g2).mono g3
      refine ⟨⟨vs, sqt_uniq h3, by rw [v1.length]; exact Nat.le_refl _⟩, fun i hi => ?_⟩
      have hget : os[i]? = some (os.getD i .no) := by
        rw [List.getD_eq_getElem?_getD, List.getElem?_eq_getElem hi]
        rfl
      obtain ⟨x, hx, hrx⟩ := v3.get hget
      refine ⟨⟨vs, x, sqt_uniq h3, hx⟩, fun y H4 hy => ?_⟩
      obtain ⟨rfl, hy⟩ := hy
      have e : y = x := Option.some.inj ((hy vs (sqt_uniq h3)).symm.trans hx)
      subst e
      exact ⟨I3, s3, Grow.refl, hrx⟩⟩
end
end Ab
/-! Ab: making objects; defs with a known code object, methods. -/
namespace Ab
open PySem PySem.Spec PyProof.Rows L2 NdefX LamX
variable [TabCtx]
/-! ### a def's body from its text -/
def mkCd (g : Pg) (N : List Str) (st : Stmt) (k : Nat) (cd : Option (Value × Str)) : Cc := { mkC g N st k with cd := cd }
/-- a body that hands back o; J: cells that are dropped -/
def Ends2 (C : Cc) (body : List Stmt) (E : List O) (M : Mem) (o : O) (M' : Mem) : Prop := M.length ≤ M'.length ∧ LowO M'.length o ∧ LowM M'.length M' ∧ ((∃ J, SB C body E M (.rt o (M' ++ J))) ∨ (o = .dat .non ∧ ∃ E' J, SB C body E M (.nx E' (M' ++ J))))
theorem start_slots {N ps : List Str} {os : List O} {vs : List V} {I H : Hp} {adr : List Addr} (v : Vs I adr os vs) : (pad N os).length = (L2.start N vs).length ∧ ∀ (i : Nat) (p : O) (ov : Option V), (pad N os)[i]? = some p → (L2.start N vs)[i]? = some ov → Vso I adr p ov := by
  refine ⟨?_, fun i p ov h1 h2 => ?_⟩
  · unfold pad L2.start
    rw [List.length_append, List.length_append, List.length_map, List.length_replicate, List.length_replicate, v.length]
  · unfold pad at h1
    unfold L2.start at h2
    by_cases hi : i < os.length
    · rw [List.getElem?_append_left hi] at h1
      obtain ⟨w, e1, e2⟩ := v.get h1
      rw [List.getElem?_append_left (by rw [List.length_map, ← v.length]; exact hi), List.getElem?_map, e1] at h2
      cases h2
      exact e2
    · rw [List.getElem?_append_right (Nat.le_of_not_lt hi)] at h1
      have hp : p = .no := List.eq_of_mem_replicate (List.mem_of_getElem? h1)
      subst hp
      cases ov with
      | none => rfl
      | some w => exact True.intro
theorem drop_tail {I H I' H' : Hp} {adr adr' : List Addr} {σ' : L2.St} {E' : List O} {M M' J : Mem} (sto : Sto I H adr M) (s' : Stt I' H' adr' σ' E' (M' ++ J)) (g' : Grow I H adr I' H' adr') (hlen : M.length ≤ M'.length) (lm : LowM M'.length M') :
    ∃ ad2, Ex I' H' ∧ Sto I' H' ad2 M' ∧ Grow I H adr I' H' ad2 ∧ ∀ o v, LowO M'.length o → Vo I' adr' o v → Vo I' ad2 o v := by
  obtain ⟨nw, rfl, fr⟩ := g'.new
  have l1 := s'.sto.len
  have l2 := sto.len
  rw [List.length_append, List.length_append] at l1
  have ht : (adr ++ nw).take M'.length = adr ++ nw.take (M'.length - adr.length) := by
    rw [List.take_append, List.take_of_length_le (by omega)]
  have sub : ∀ (k : Nat) (a : Addr), ((adr ++ nw).take M'.length)[k]? = some a → (adr ++ nw)[k]? = some a := fun k a h => by
    rw [List.getElem?_take] at h
    split at h
    · exact h
    · cases h
  refine ⟨(adr ++ nw).take M'.length, s'.ex, ⟨?_, s'.sto.nd.sublist (List.take_sublist _ _), fun k a ps h1 h2 => ?_, fun k a h1 => s'.sto.dom k a (sub k a h1), s'.sto.amb⟩, ⟨g'.ex, ⟨_, ht, fun p hp => fr p (List.take_subset _ _ hp)⟩, g'.keep, g'.dom, g'.out, g'.code⟩, fun o v lo v' => vo_take lo v'⟩
  · rw [List.length_take, List.length_append]
    omega
  · have hk : k < M'.length := (List.getElem?_eq_some_iff.mp h2).1
    obtain ⟨c1, xs, c2, c3⟩ := s'.sto.cell k a ps (sub k a h1) (by rw [List.getElem?_append_left hk]; exact h2)
    exact ⟨c1, xs, c2, vs_take (lm k ps h2) c3⟩
/-- THE RULE: a def's text at f -/
theorem fnok {g : Pg} {x qual : Str} {st : Stmt} {N ps : List Str} {k : Nat} {R : Rel} {f : Addr} {oc : Value} {od an : Option Addr} {dV kV doc pm cdv ct : Value} {osl : Array (Option Value)} {cd : Option (Value × Str)}
    (lk : g.K.lookup f = some ⟨oc, od, .func (PySem.W.fnOf x qual (defArgs st) (defBody st) (defScope st) dV kV doc pm an cdv ct), osl⟩) (hcd : PySem.W.codeIn g.K cdv qual = true) (S : FnScope N ps (defScope st)) (hc : ∀ c q, cd = some (c, q) → cdv = c ∧ qual ++ ".<locals>." = q)
    (hl : ∀ os M o M', R os M o M' → os.length = ps.length) (body : ∀ os M o M', R os M o M' → Ends2 (mkCd g N st k cd) (defBody st) (pad N os) M o M') :
    FnOk g.P g.w g.K g.mg g.base CX0 (k + 1) f (PySem.W.fnOf x qual (defArgs st) (defBody st) (defScope st) dV kV doc pm an cdv ct) ps (spR R) := by
  refine fn_of lk hcd S (fun vs H Q E h => ?_) fun A outer s H vs Q E hr h => ?_
  · obtain ⟨I, adr, os, M, o, M', r, _, _, v, _⟩ := h
    rw [← v.length]
    exact hl _ _ _ _ r
  · obtain ⟨I, adr, os, M, o, M', r, ex, sto, v, q⟩ := h
    obtain ⟨hlen, lo, lm, hB⟩ := body os M o M' r
    have key : ∃ t, PSs (cxOf CX0 g.P g.w g.K g.mg g.base N qual (defScope st) f cdv A outer s H E).nox (defBody st) t ∧ t { nx := fun _ H' => Q .non H', rt := Q } (L2.start N vs) H := by
      refine ⟨UB (mkCd g N st k cd) (defBody st), ub ⟨rfl, rfl, rfl, rfl, rfl, rfl, rfl, rfl, hr, PassesOwn.never, takes0, fun _ _ => rfl, fun c q z => ?_, ⟨_, _, rfl, S.gen, S.co, rfl, rfl⟩⟩ _, ?_⟩
      · obtain ⟨e1, e2⟩ := hc c q z
        exact ⟨e1, e2⟩
      have sl := start_slots (N := N) (ps := ps) (I := I) (H := H) v
      rcases hB with ⟨J, hB⟩ | ⟨rfl, E', J, hB⟩
      · refine hB I H adr (L2.start N vs) _ ⟨ex, sto, sl.1, sl.2⟩ fun w I' H' adr' s' g' v' => ?_
        obtain ⟨ad2, e2, t2, g2, vo⟩ := drop_tail sto s' g' hlen lm
        exact q w I' H' ad2 e2 t2 g2 (vo _ _ lo v')
      · refine hB I H adr (L2.start N vs) _ ⟨ex, sto, sl.1, sl.2⟩ fun I' H' adr' σ' s' g' => ?_
        obtain ⟨ad2, e2, t2, g2, vo⟩ := drop_tail sto s' g' hlen lm
        exact q .non I' H' ad2 e2 t2 g2 .non
    obtain ⟨t, h1, h2⟩ := key
    exact ⟨t, h1.nox, h2⟩
/-- a def of the module whose code object is at c, the table of its inner code objects at P -/
structure TxtC (g : Pg) (x : Str) (st : Stmt) (c P : Addr) : Prop where
  ex : ∃ (f : Addr) (oc : Value) (od an : Option Addr) (kV doc pm ct : Value) (osl : Array (Option Value)), g.K.lookup f = some ⟨oc, od, .func (PySem.W.fnOf x x (defArgs st) (defBody st) (defScope st) .none kV doc pm an (.ref c) ct), osl⟩ ∧ PySem.W.codeIn g.K (.ref c) x = true ∧ g.mg x = some (.ref f) ∧ PySem.W.keepIn g.K (.ref f) = true
  tb : TabB g.base g.mg c P
theorem FN.mkC {g : Pg} {x : Str} {st : Stmt} {c P : Addr} {N ps : List Str} {k : Nat} {R : Rel} (T : TxtC g x st c P) (S : FnScope N ps (defScope st))
    (hb : ∀ (kV doc pm : Value) (an : Option Addr) (cdv ct : Value) (us : List Value), us.length = ps.length → bindArgs (PySem.W.fnOf x x (defArgs st) (defBody st) (defScope st) .none kV doc pm an cdv ct) ⟨us, []⟩ = pure (ps.zip us))
    (hl : ∀ os M o M', R os M o M' → os.length = ps.length) (body : ∀ os M o M', R os M o M' → Ends2 (mkCd g N st k (some (.ref c, x ++ ".<locals>."))) (defBody st) (pad N os) M o M') : FN g x (k + 1) R := by
  obtain ⟨f, oc, od, an, kV, doc, pm, ct, osl, lk, hcd, hm, hk⟩ := T.ex
  exact ⟨f, _, ps, fnok lk hcd S (fun c q z => by cases z; exact ⟨rfl, rfl⟩) hl body, hm, hk, .all (hb kV doc pm an (.ref c) ct)⟩
/-- a method of the class -/
structure TxtM (g : Pg) (Ca : Addr) (cls m : Str) (st : Stmt) : Prop where
  ex : ∃ (f : Addr) (fd : FuncData), Fun g.K m cls st f fd ∧ Meth g.K Ca m f
theorem MT.mk {g : Pg} {Ca : Addr} {cls m : Str} {st : Stmt} {N ps : List Str} {k : Nat} {R : Rel} (T : TxtM g Ca cls m st) (S : FnScope N ps (defScope st))
    (hb : ∀ (kV doc pm : Value) (an : Option Addr) (cdv ct : Value) (us : List Value), us.length = ps.length → bindArgs (PySem.W.fnOf m cls (defArgs st) (defBody st) (defScope st) .none kV doc pm an cdv ct) ⟨us, []⟩ = pure (ps.zip us))
    (hl : ∀ os M o M', R os M o M' → os.length = ps.length) (body : ∀ os M o M', R os M o M' → Ends2 (mkCd g N st k none) (defBody st) (pad N os) M o M') : MT g Ca m (k + 1) R := by
  obtain ⟨f, fd, F, hm⟩ := T.ex
  have F0 := F
  obtain ⟨oc, od, kV, doc, pm, an, cdv, ct, osl, rfl, lk, hcd⟩ := F.ex
  exact ⟨f, _, ps, hm, fnok lk hcd S (fun c q z => by cases z) hl body, F0.binds hb⟩
theorem FN.mk2x {g : Pg} {x : Str} {st : Stmt} {N ps : List Str} {k : Nat} {R : Rel} (T : TxtF g x st) (S : FnScope N ps (defScope st))
    (hb : ∀ (kV doc pm : Value) (an : Option Addr) (cdv ct : Value) (us : List Value), us.length = ps.length → bindArgs (PySem.W.fnOf x x (defArgs st) (defBody st) (defScope st) .none kV doc pm an cdv ct) ⟨us, []⟩ = pure (ps.zip us))
    (hl : ∀ os M o M', R os M o M' → os.length = ps.length) (body : ∀ os M o M', R os M o M' → Ends2 (mkCd g N st k none) (defBody st) (pad N os) M o M') : FN g x (k + 1) R := by
  obtain ⟨f, fd, F, hm⟩ := T.fn
  have F0 := F
  obtain ⟨oc, od, kV, doc, pm, an, cdv, ct, osl, rfl, lk, hcd⟩ := F.ex
  exact ⟨f, _, ps, fnok lk hcd S (fun c q z => by cases z) hl body, hm, F0.kp, F0.binds hb⟩
/-! ### __init__ -/
abbrev RelI := List O → Mem → List (Str × Nat) → Mem → Prop
def spI (Ca : Addr) (R : RelI) : Sp := fun vs H Q _ => ∃ (Hb I : Hp) (adr : List Addr) (x dx : Addr) (ws : List V) (os : List O) (M : Mem) (fs : List (Str × Nat)) (M' : Mem), vs = .ref x :: ws ∧ Hb x = none ∧ Hb dx = none ∧ dx ≠ x ∧ H = upd (upd Hb dx (.own x)) x (.ins Ca dx []) ∧ R os M fs M' ∧ Ex I Hb ∧ Sto I Hb adr M ∧ Vs I adr os ws ∧
  ∀ I' H' adr', Ex I' H' → Sto I' H' adr' M' → Grow I Hb adr I' H' adr' → Vo I' adr' (.obj Ca fs) (.ref x) → Q .non H'
/-- the class named x keeps R -/
def MK (g : Pg) (x : Str) (Ca : Addr) (k : Nat) (R : RelI) : Prop := ∃ (f : Addr) (fd : FuncData) (ps : List Str), Mk g.K Ca f ∧ FnOk g.P g.w g.K g.mg g.base CX0 k f fd ps (spI Ca R) ∧ g.mg x = some (.ref Ca) ∧ Binds g.K fd ps []
section
variable {C : Cc} {E E1 E2 E' cs : List O} {M M1 M2 M3 M' : Mem} {o o1 o2 o3 : O} {os : List O} {e a b c tg iter body : Expr} {es : List Expr} {pos pos' p kp lpos apos : Pos} {d d1 d2 : D} {ds : List D} {i j : Int} {r : Out}
theorem EV.make {Ca : Addr} {x : Str} {kf : Nat} {R : RelI} {os0 : List O} {fs : List (Str × Nat)} {M0 M0' : Mem} {ι : List Nat} (F : MK C.g x Ca kf R) (ha : EA C (e :: es) E M os M1) (hR : R os0 M0 fs M0') (ho : os = os0.map (·.ren (rho ι M1.length))) (mx : Mix ι M1 M0 M0' M2)
    (hk : Nat.ble (kf + 1) C.k = true := by rfl) (hg : C.sc.names.lookup x = some .globalImplicit := by rfl) (hdb : (x == ("__debug__" : Str)) = false := by decide) (he : ∀ env, starEach (e :: es) env = (false, eval e env) :: starEach es env := by intro _; rfl) (hpl : ∀ env, (backTo pos (starEach es env)).any (·.1) = false := by intro _; rfl) :
    EV C (.Call (.Name x p) (e :: es) [] pos) E M (.obj Ca (fs.map fun f => (f.1, rho ι M1.length f.2))) M2 := by
  obtain ⟨f, fd, ps, hM, F, hm, hb⟩ := F
  refine EV.mk (t := tMake Ca (spI Ca R) [] E0 (UA C (e :: es))) (fun X hX => ?_) fun I H adr σ Q s q => ?_
  · exact pe_make (k := kf) (f := f) (fd := fd) (ps := ps) (by rw [hX.K]; exact hM) (by rw [hX.P, hX.w, hX.K, hX.mg, hX.base]; exact F) (hX.room.mono (Nat.le_of_ble_eq_true hk)) (by show X.env.scope.names.lookup x = _; rw [hX.sc]; exact hg) (by rw [hX.mg]; exact hm) (by rw [hX.K]; exact hb) .nil pass0 (ua hX _) hdb (he X.env) (hpl X.env)
  · refine ha I H adr σ _ s fun vs I1 H1 adr1 s1 g1 v1 => ?_
    intro x dx hx hdx hne
    subst ho
    obtain ⟨adr0, sto0, vs0, back⟩ := call_mix s1 mx
    show spI Ca R (.ref x :: (vs ++ [])) _ _ E0
    rw [List.append_nil]
    refine ⟨H1, I1, adr0, x, dx, vs, os0, M0, fs, M0', rfl, hx, hdx, hne, rfl, hR, s1.ex, sto0, vs0 _ _ v1, fun I3 H3 adr0' ex3 sto3 g3 v3 => ⟨rfl, ?_⟩⟩
    obtain ⟨adr3, s3, g4, dr⟩ := back I3 H3 adr0' ex3 sto3 g3
    exact q _ I3 H3 adr3 s3 (g1.trans g4) (dr _ _ v3)
/-- what the layer doesn't know may be written -/
theorem Stt.oth {I H : Hp} {adr : List Addr} {σ : L2.St} {x Ca dx Cb dy : Addr} {gs hs : List (Str × V)} (s : Stt I H adr σ E M) (hx : x ∉ adr) (hi : I x = none) (h0 : H x = some (.ins Ca dx gs)) : Stt I (upd H x (.ins Cb dy hs)) adr σ E M := by
  have nx : ∀ (k : Nat) (a : Addr), adr[k]? = some a → a ≠ x := fun k a h z => hx (z ▸ List.mem_of_getElem? h)
  refine ⟨s.ex.mut hi, ⟨s.sto.len, s.sto.nd, fun k a os h1 h2 => ?_, fun k a h => ?_, ⟨fun q hq => ?_, s.sto.amb.nt⟩⟩, s.len, s.slot⟩
  · obtain ⟨c1, xs, c2, c3⟩ := s.sto.cell k a os h1 h2
    exact ⟨c1, xs, by rw [upd_ne (nx k a h1)]; exact c2, c3⟩
  · obtain ⟨u, hu, n⟩ := s.sto.dom k a h
    exact ⟨u, by rw [upd_ne (nx k a h)]; exact hu, n⟩
  · obtain ⟨ps, h1, h2, h3⟩ := s.sto.amb.tabs q hq
    have ne : ∀ b u, H b = some u → (∀ A d l, u ≠ .ins A d l) → b ≠ x := fun b u h n z => by
      rw [z, h0] at h
      exact n _ _ _ (Option.some.inj h).symm
    refine ⟨ps, by rw [upd_ne (ne _ _ h1 (fun _ _ _ z => by cases z))]; exact h1, h2, fun pos cv hc => ?_⟩
    obtain ⟨c, e1, e2⟩ := h3 pos cv hc
    exact ⟨c, e1, by rw [upd_ne (ne _ _ e2 (fun _ _ _ z => by unfold LamX.CodeO at z; cases z))]; exact e2⟩
theorem Grow.oth {I H I1 H1 : Hp} {adr adr1 : List Addr} {x : Addr} {u : HO} (g : Grow I H adr I1 H1 adr1) (hx : H x = none) : Grow I H adr I1 (upd H1 x u) adr1 :=
  ⟨g.ex, g.new, fun p o h n q => by rw [upd_ne (ne_of_none h hx)]; exact g.keep p o h n q, fun p o h n => by
    obtain ⟨o', h', n'⟩ := g.dom p o h n
    exact ⟨o', by rw [upd_ne (ne_of_none h hx)]; exact h', n'⟩, g.out, fun c q h => by rw [upd_ne (ne_of_none h hx)]; exact g.code c q h⟩
/-- the fields are written one by one -/
def DoI (C : Cc) (sts : List Stmt) (Ca : Addr) (E : List O) (M : Mem) (fs : List (Str × Nat)) (M' : Mem) (fs' : List (Str × Nat)) : Prop :=
  ∀ (Hb I0 : Hp) (adr0 : List Addr) (I H : Hp) (adr : List Addr) (σ : L2.St) (D : Ends) (x dx : Addr) (gs : List (Str × V)), σ[0]? = some (some (.ref x)) → Hb x = none → I0 x = none → Stt I H adr σ E M → Grow I0 Hb adr0 I H adr → x ∉ adr → I x = none → H x = some (.ins Ca dx gs) → FPair adr fs gs →
    (∀ I' H' adr' σ' gs', Stt I' H' adr' σ' E M' → Grow I0 Hb adr0 I' H' adr' → x ∉ adr' → I' x = none → H' x = some (.ins Ca dx gs') → FPair adr' fs' gs' → D.nx σ' H') → UB C sts D σ H
theorem DoI.nil {Ca : Addr} {fs : List (Str × Nat)} : DoI C [] Ca E M fs M fs := fun Hb I0 adr0 I H adr σ D x dx gs h0 hb hi0 s g nx ix hx fp q => ⟨_, fun _ _ => pss_nil, q I H adr σ gs s g nx ix hx fp⟩
theorem DoI.cons {Ca : Addr} {fs fs' : List (Str × Nat)} {f sf : Str} {k : Nat} {sts : List Stmt} {q1 q2 q3 : Pos} (he : EV C e E M (.adr k) M1) (hr : DoI C sts Ca E M1 (fs ++ [(f, k)]) M' fs') (cl : Cls C.g.K Ca) (na : NoAttr C.g.K Ca f) (hz : fs.length < 900) (hf : fs.lookup f = none := by rfl)
    (hN : C.N[0]? = some sf := by rfl) (hv : Vis C.sc sf := by first | exact Or.inl rfl | exact Or.inr (Or.inl rfl)) (hd : (sf == ("__debug__" : Str)) = false := by decide) (hcd : (sf == ("__classdict__" : Str)) = false := by decide)
    (hs : ∀ env, swapsWith e (some (.Attribute (.Name sf q1) f q2)) q3.line env = pure false := by intro _; rfl) : DoI C (.Assign [.Attribute (.Name sf q1) f q2] e q3 :: sts) Ca E M fs M' fs' := fun Hb I0 adr0 I H adr σ D x dx gs h0 hb hi0 s g nx ix hx fp q => by
  refine ⟨tSeq (sFld C.g.K (tVar 0) (UE C e) f) (UB C sts), fun X hX => pss_cons ?_ (ub hX sts), ?_⟩
  · have := ps_fld (pos := q3) (pos' := q2) (f := f) (pe_var (pos := q1) (i := 0) (x := sf) (by rw [hX.N]; exact hN) (by rw [hX.sc]; exact hv) hd hcd) (ue hX e) (hs X.env)
    rw [hX.K] at this
    exact this
  · refine he I H adr σ _ s fun v I1 H1 adr1 s1 g1 v1 => ?_
    obtain ⟨ak, ek, rfl⟩ := v1
    have nx1 : x ∉ adr1 := fun z => by
      obtain ⟨nw, rfl, fr⟩ := g1.new
      rcases List.mem_append.mp z with z | z
      · exact nx z
      · exact fr x z _ hx (fun ps z => by cases z)
    have ix1 : I1 x = none := g1.out x _ hx (fun ps z => by cases z) ix nx
    have hx1 : H1 x = some (.ins Ca dx gs) := g1.keep x _ hx (fun ps z => by cases z) nx
    have fp1 : FPair adr1 fs gs := prMap fp fun f' g' z => ⟨z.1, let ⟨a, e1, e2⟩ := z.2; ⟨a, g1.get e1, e2⟩⟩
    refine ⟨.ref x, h0, x, Ca, dx, gs, rfl, hx1, cl, na, by rw [← fpLen fp]; omega, ?_⟩
    exact hr Hb I0 adr0 I1 (upd H1 x (.ins Ca dx (putF f (.ref ak) gs))) adr1 σ D x dx _ h0 hb hi0 (s1.oth nx1 ix1 hx1) ((g.trans g1).oth hb) nx1 ix1 upd_same (fpPut ek fp1 hf) q
/-- a class by its __init__ -/
theorem MK.mk {g : Pg} {Ca : Addr} {cls qn : Str} {st : Stmt} {N ps : List Str} {k : Nat} {R : RelI} {f : Addr} {fd : FuncData} (F : Fun g.K "__init__" qn st f fd) (hM : Mk g.K Ca f) (hm : g.mg cls = some (.ref Ca)) (S : FnScope N ps (defScope st))
    (hb : ∀ (kV doc pm : Value) (an : Option Addr) (cdv ct : Value) (us : List Value), us.length = ps.length → bindArgs (PySem.W.fnOf "__init__" qn (defArgs st) (defBody st) (defScope st) .none kV doc pm an cdv ct) ⟨us, []⟩ = pure (ps.zip us))
    (hN : 0 < N.length) (hl : ∀ os M fs M', R os M fs M' → os.length + 1 = ps.length) (body : ∀ os M fs M', R os M fs M' → DoI (mkCd g N st k none) (defBody st) Ca (pad N (.no :: os)) M [] M' fs) : MK g cls Ca (k + 1) R := by
  have F0 := F
  obtain ⟨oc, od, kV, doc, pm, an, cdv, ct, osl, rfl, lk, hcd⟩ := F.ex
  refine ⟨f, _, ps, hM, fn_of lk hcd S (fun vs H Q E h => ?_) fun A outer s H vs Q E hr h => ?_, hm, F0.binds hb⟩
  · obtain ⟨Hb, I, adr, x, dx, ws, os, M, fs, M', rfl, _, _, _, _, r, _, _, v, _⟩ := h
    rw [List.length_cons, ← v.length]
    exact hl _ _ _ _ r
  · obtain ⟨Hb, I, adr, x, dx, ws, os, M, fs, M', rfl, hbx, hbd, hne, rfl, r, ex, sto, v, q⟩ := h
    have key : ∃ t, PSs (cxOf CX0 g.P g.w g.K g.mg g.base N qn (defScope st) f cdv A outer s (upd (upd Hb dx (.own x)) x (.ins Ca dx [])) E).nox (defBody st) t ∧ t { nx := fun _ H' => Q .non H', rt := Q } (L2.start N (.ref x :: ws)) (upd (upd Hb dx (.own x)) x (.ins Ca dx [])) := by
      refine ⟨UB (mkCd g N st k none) (defBody st), ub ⟨rfl, rfl, rfl, rfl, rfl, rfl, rfl, rfl, hr, PassesOwn.never, takes0, fun _ _ => rfl, fun c q z => (by cases z), ⟨_, _, rfl, S.gen, S.co, rfl, rfl⟩⟩ _, ?_⟩
      have ix : I x = none := ex.non hbx
      have idx : I dx = none := ex.non hbd
      have H1x : (upd Hb dx (.own x)) x = none := by rw [upd_ne hne.symm]; exact hbx
      have v' : Vs I adr (.no :: os) (.ref x :: ws) := .cons True.intro v
      have sl := start_slots (N := N) (ps := ps) (I := I) (H := Hb) v'
      have nxa : x ∉ adr := fun z => by
        obtain ⟨kk, hk⟩ := List.getElem?_of_mem z
        obtain ⟨u, hu, _⟩ := sto.dom kk x hk
        rw [hbx] at hu
        cases hu
      have eq2 : ∀ b u, Hb b = some u → (upd (upd Hb dx (.own x)) x (.ins Ca dx [])) b = some u := fun b u e => by
        rw [upd_ne (ne_of_none e hbx), upd_ne (ne_of_none e hbd)]
        exact e
      have sto2 : Sto I (upd (upd Hb dx (.own x)) x (.ins Ca dx [])) adr M := ⟨sto.len, sto.nd, fun kk a os h1 h2 => by
          obtain ⟨c1, xs, c2, c3⟩ := sto.cell kk a os h1 h2
          exact ⟨c1, xs, eq2 _ _ c2, c3⟩, fun kk a h => by
          obtain ⟨u, hu, n⟩ := sto.dom kk a h
          exact ⟨u, eq2 _ _ hu, n⟩, ⟨(sto.amb.tabs.ext fun b u e => eq2 b u e), sto.amb.nt⟩⟩
      have ex2 : Ex I (upd (upd Hb dx (.own x)) x (.ins Ca dx [])) := fun b u e => eq2 b u (ex b u e)
      have g0 : Grow I Hb adr I (upd (upd Hb dx (.own x)) x (.ins Ca dx [])) adr := ⟨Ex.refl _, ⟨[], by simp, by simp⟩, fun p u h _ _ => eq2 p u h, fun p u h n => ⟨u, eq2 p u h, n⟩, fun _ _ _ _ h _ => h, fun c q h => eq2 _ _ h⟩
      refine body os M fs M' r Hb I adr I _ adr (L2.start N (.ref x :: ws)) _ x dx [] rfl hbx ix ⟨ex2, sto2, sl.1, sl.2⟩ g0 nxa ix upd_same .nil fun I' H' adr' σ' gs' s' g' nx' ix' hx' fp' => ?_
      have neq : ∀ (kk : Nat) (a : Addr), adr'[kk]? = some a → a ≠ x := fun kk a h z => nx' (z ▸ List.mem_of_getElem? h)
      have e3 : Ex (upd I' x (.ins Ca dx gs')) H' := fun b u h => by
        by_cases z : b = x
        · subst z
          rw [upd_same] at h
          cases h
          exact hx'
        · rw [upd_ne z] at h
          exact s'.ex b u h
      have i3 : Ex I' (upd I' x (.ins Ca dx gs')) := Ex.new ix'
      refine q (upd I' x (.ins Ca dx gs')) H' adr' e3 ⟨s'.sto.len, s'.sto.nd, fun kk a os h1 h2 => ?_, s'.sto.dom, ⟨s'.sto.amb.tabs, fun b u h => ?_⟩⟩ ⟨g'.ex.trans i3, g'.new, g'.keep, g'.dom, fun p u h n h1 h2 => ?_, g'.code⟩ ⟨x, dx, gs', rfl, upd_same, fp'⟩
      · obtain ⟨c1, xs, c2, c3⟩ := s'.sto.cell kk a os h1 h2
        exact ⟨by rw [upd_ne (neq kk a h1)]; exact c1, xs, c2, c3.ext i3⟩
      · by_cases z : b = x
        · subst z
          rw [upd_same] at h
          cases h
          exact fun ps z => by cases z
        · rw [upd_ne z] at h
          exact s'.sto.amb.nt b u h
      · rw [upd_ne (ne_of_none h hbx)]
        exact g'.out p u h n h1 h2
    obtain ⟨t, h1, h2⟩ := key
    exact ⟨t, h1.nox, h2⟩
end
end Ab
/-! Ab: any of a tuple of ints; a cell within a cell is frozen. -/
namespace Ab
open PySem PySem.Spec PyProof.Rows L2
variable [TabCtx]
section
variable {C : Cc} {E E1 E2 E' : List O} {M M1 M2 M3 M' : Mem} {o : O} {os ps : List O} {e a b c : Expr} {pos pos' p : Pos} {d d1 d2 : D} {ds : List D} {i j : Int} {r : Out} {x : Str}
theorem any_range' {ns : List Int} : (List.range ns.length).any (fun i => ns.getD i 0 != 0) = ns.any (· != 0) := by
  rw [Bool.eq_iff_iff]
  simp only [List.any_eq_true, List.mem_range]
  constructor
  · rintro ⟨i, hi, h⟩
    refine ⟨ns[i], List.getElem_mem hi, ?_⟩
    rw [List.getD_eq_getElem?_getD, List.getElem?_eq_getElem hi] at h
    exact h
  · rintro ⟨y, hy, h⟩
    obtain ⟨i, hi, e⟩ := List.getElem_of_mem hy
    refine ⟨i, hi, ?_⟩
    rw [List.getD_eq_getElem?_getD, List.getElem?_eq_getElem hi, e]
    exact h
theorem cr_anyT {X : Cx} (hc : X.calm = true) : CallR X (.builtin "any") (fun vs H Q => ∃ (a : Addr) (ns : List Int), vs = [V.ref a] ∧ SqT X.K H a (ns.map V.int) ∧ Q (.bl (ns.any (· != 0))) H) := by
  intro pins s σ H vs us Q I r h
  obtain ⟨a, ns, rfl, hs, q⟩ := h
  obtain ⟨its, rv, hp, _⟩ := I.tuple hs
  rw [Vals.ref1 r]
  have hi : IntsAre its ns := Vals.ints rv
  have hp' : s.heap.IsTuple a its.toArray := hp
  have hlt : a < s.heap.objs.size := by obtain ⟨_, e, _⟩ := hp'; exact Heap.lt_size e
  refine call_any_walk (wpAny_pyIter_tuple hp' ⟨_, _, _, _, _, _, fun i => ns.getD i 0 != 0, rfl, Walks.tuple (A := X.A.in1) (I.ok.hd hc) _ a (Nat.ne_of_lt hlt) its.toArray, ⟨⟨_, Heap.get?_push_size _ rfl, rfl, rfl⟩, hp'.push _⟩, fun i v s Q E hv hq => ?_, fun h' tk hk => ?_⟩)
  · have hv' : its[i]? = some v := by simpa using hv
    have hl : i < ns.length := by
      rw [← hi.length]
      exact (List.getElem?_eq_some_iff.mp hv').1
    obtain ⟨t, ht⟩ := hi.get i ns[i] (List.getElem?_eq_getElem hl)
    rw [ht] at hv'
    cases hv'
    have e : ns.getD i 0 = ns[i] := by rw [List.getD_eq_getElem?_getD, List.getElem?_eq_getElem hl]; rfl
    try dsimp only at hq
    rw [e] at hq
    exact PyProof.Rows.truthy_int hq
  · refine ⟨.bl _, H, I.kept fun b o eo => hk b o (fun hmem => ?_) (Heap.get?_push_of_some _ eo), ?_, q⟩
    · rcases List.mem_cons.mp hmem with e1 | hmem
      · exact absurd (e1 ▸ Heap.lt_size eo) (Nat.lt_irrefl _)
      · cases hmem
    · show Value.bool _ = Value.bool _
      rw [← any_range', List.size_toArray, hi.length]
theorem KS.anyT {ns : List Int} : KS C (.builtin "any") [.dat (.tup (ns.map .int))] M (.dat (.bl (ns.any (· != 0)))) M := ⟨_, fun X hX => by
  have := cr_anyT (X := X) hX.calm
  rw [hX.K] at this
  exact this, fun I H adr σ E vs Q s hv q => by
  obtain ⟨v, ev, hz⟩ := vsOne hv
  subst ev
  cases (show Rep I (.tup (ns.map .int)) v from hz) with
  | @tup p xs _ hp hr =>
    have e := reps_int hr
    subst e
    exact ⟨p, ns, rfl, .inl (.inl (s.ex _ _ hp)), q _ I H adr s Grow.refl (.bl _)⟩⟩
theorem EV.anyT {ns : List Int} (h : EV C a E M (.dat (.tup (ns.map .int))) M') (hm : Bt C.g "any") (hx : x = "any" := by rfl) (hg : C.sc.names.lookup x = some .globalImplicit := by rfl) (he : ∀ env, starEach [a] env = (false, eval a env) :: starEach [] env := by intro _; rfl) : EV C (.Call (.Name x p) [a] [] pos) E M (.dat (.bl (ns.any (· != 0)))) M' := by
  subst hx; exact EV.bi KS.anyT h hm bv_any (by decide) (by decide) hg he
/-- the cell nn, an element of the cell oc, is frozen -/
theorem SB.fzC {oc nn k : Nat} {sts : List Stmt} (ho : M[oc]? = some (some ps)) (hp : ps[k]? = some (.adr nn)) (hne : oc ≠ nn) (hm : M[nn]? = some (some (ds.map .dat))) (h : SB C sts E ((M.set nn none).set oc (some (ps.set k (.dat (.lst ds))))) r) : SB C sts E M r := fun I H adr σ D s q => by
  have hk : nn < adr.length := by
    rw [s.sto.len]
    exact (List.getElem?_eq_some_iff.mp hm).1
  have hoc : oc < M.length := (List.getElem?_eq_some_iff.mp ho).1
  obtain ⟨I1, s1, g1, r1⟩ := s.frz (List.getElem?_eq_getElem hk) hm
  have hoc1 : oc < adr.length := by rw [s.sto.len]; exact hoc
  obtain ⟨c1, xs, c2, c3⟩ := s1.sto.cell oc adr[oc] ps (List.getElem?_eq_getElem hoc1) (by rw [List.getElem?_set_ne (fun z => hne z.symm)]; exact ho)
  obtain ⟨v, hv, hvo⟩ := c3.get hp
  obtain ⟨a', h1, h2⟩ := hvo
  rw [List.getElem?_eq_getElem hk] at h1
  cases h1
  subst h2
  have e : xs.set k (.ref adr[nn]) = xs := by
    obtain ⟨hl, he⟩ := List.getElem?_eq_some_iff.mp hv
    rw [← he]
    exact List.set_getElem_self hl
  have c4 : Vs I1 adr (ps.set k (.dat (.lst ds))) xs := by
    have := c3.set (o := .dat (.lst ds)) (v := .ref adr[nn]) r1 k
    rw [e] at this
    exact this
  have s2 : Stt I1 H adr σ E ((M.set nn none).set oc (some (ps.set k (.dat (.lst ds))))) := by
    refine ⟨s1.ex, ⟨by rw [List.length_set]; exact s1.sto.len, s1.sto.nd, fun j b qs h1 h2 => ?_, s1.sto.dom, s1.sto.amb⟩, s1.len, s1.slot⟩
    by_cases hj : j = oc
    · subst hj
      rw [List.getElem?_set_self (by rw [List.length_set]; exact hoc)] at h2
      cases h2
      rw [List.getElem?_eq_getElem hoc1] at h1
      cases h1
      exact ⟨c1, xs, c2, c4⟩
    · rw [List.getElem?_set_ne (fun z => hj z.symm)] at h2
      exact s1.sto.cell j b qs h1 h2
  exact h I1 H adr σ D s2 (q.mono g1)
end
end Ab
/-! Ab: == and != of lists of lists, != of tuples of tuples. -/
namespace Ab
open PySem PySem.Spec PyProof.Rows L2
variable [TabCtx]
def pW (v : List Int) : PyData := .list (v.map .int)
def pN (m : List (List Int)) : PyData := .list (m.map pW)
theorem pys_W : ∀ m : List (List Int), Pys (m.map lV) (m.map pW)
  | [] => .nil
  | r :: m => .cons (.lst (pys_int r)) (pys_W m)
theorem py_N (m : List (List Int)) : Py (lM m) (pN m) := .lst (pys_W m)
theorem eqv_W : ∀ m n : List (List Int), PyData.eqvAll (m.map pW) (n.map pW) = decide (m = n)
  | [], [] => rfl
  | [], _ :: _ => rfl
  | _ :: _, [] => rfl
  | x :: v, y :: w => by
    show (PyData.eqvAll (x.map .int) (y.map .int) && PyData.eqvAll (v.map pW) (w.map pW)) = _
    rw [eqv_W v w, eqv_ints, Bool.eq_iff_iff]
    simp only [Bool.and_eq_true, decide_eq_true_eq, List.cons.injEq]
theorem lay_W : ∀ m : List (List Int), PyData.canLayAll0 (m.map pW) = true
  | [] => rfl
  | x :: v => by
    show (PyData.canLayAll0 (x.map .int) && PyData.canLayAll0 (v.map pW)) = true
    rw [lay_W v, lay_ints, Bool.and_self]
theorem dep_W : ∀ m : List (List Int), PyData.depthAll (m.map pW) ≤ 2
  | [] => by decide
  | x :: v => by
    have a := dep_W v
    have b := dep_ints x
    show max (PyData.depthAll (x.map .int) + 1) (PyData.depthAll (v.map pW)) ≤ 2
    omega
theorem shaped_N (m : List (List Int)) : SeqAt.shaped (pN m) = true := by
  unfold SeqAt.shaped
  have a : (pN m).canLay0 = true := lay_W m
  have b : (pN m).depth ≤ 64 := by
    have z := dep_W m
    show PyData.depthAll (m.map pW) + 1 ≤ 64
    omega
  rw [a, decide_eq_true b, Bool.and_self]
section
variable {C : Cc} {M : Mem}
theorem CS.eqN {m m' : List (List Int)} : CS C .Eq (.dat (lM m)) (.dat (lM m')) M (.dat (.bl (decide (m = m')))) M := ⟨rEqD C.g.K, fun X hX => hX.K ▸ op_eqD (X := X) (hu64 hX), fun I H adr σ E v w Q s hv hw q =>
  ⟨pN m, pN m', rep_dp s.ex (py_N m) hv, rep_dp s.ex (py_N m') hw, shaped_N m, shaped_N m', by
    rw [show PyData.eqv (pN m) (pN m') = decide (m = m') from eqv_W m m']
    exact q _ I H adr s Grow.refl (.bl _)⟩⟩
theorem CS.neN {m m' : List (List Int)} : CS C .NotEq (.dat (lM m)) (.dat (lM m')) M (.dat (.bl (!decide (m = m')))) M := ⟨rNeD C.g.K, fun X hX => hX.K ▸ op_neD (X := X) (hu64 hX), fun I H adr σ E v w Q s hv hw q =>
  ⟨pN m, pN m', rep_dp s.ex (py_N m) hv, rep_dp s.ex (py_N m') hw, shaped_N m, shaped_N m', by
    rw [show PyData.eqv (pN m) (pN m') = decide (m = m') from eqv_W m m']
    exact q _ I H adr s Grow.refl (.bl _)⟩⟩
theorem CS.neM {m m' : List (List Int)} : CS C .NotEq (.dat (tM m)) (.dat (tM m')) M (.dat (.bl (!decide (m = m')))) M := ⟨rNeD C.g.K, fun X hX => hX.K ▸ op_neD (X := X) (hu64 hX), fun I H adr σ E v w Q s hv hw q =>
  ⟨pM m, pM m', rep_dp s.ex (py_M m) hv, rep_dp s.ex (py_M m') hw, shaped_M m, shaped_M m', by
    rw [show PyData.eqv (pM m) (pM m') = decide (m = m') from eqv_rows m m']
    exact q _ I H adr s Grow.refl (.bl _)⟩⟩
/-- two lists one behind the other, a cell -/
theorem BS.addLN {ds es : List D} (h : ds.length + es.length ≤ 100000) : BS C .Add (.dat (.lst ds)) (.dat (.lst es)) M (.adr M.length) (M ++ [some ((ds ++ es).map .dat)]) := ⟨rCat, fun X hX => op_cat, fun I H adr σ E v w Q s hv hw q => by
  cases (show Rep I (.lst ds) v from hv) with
  | @lst a xs _ ha hr =>
    cases (show Rep I (.lst es) w from hw) with
    | @lst b ys _ hb hs =>
      refine ⟨a, b, xs, ys, rfl, rfl, s.ex _ _ ha, s.ex _ _ hb, by rw [← hr.length, ← hs.length]; exact sz_of h, fun p hp => ?_⟩
      obtain ⟨s2, g2, r2⟩ := s.cel hp (Vs.reps (hr.append hs))
      exact q _ _ _ _ s2 g2 ⟨p, r2, rfl⟩⟩
theorem CS.inIT {i : Int} {ns : List Int} : CS C .In (.dat (.int i)) (.dat (.tup (ns.map .int))) M (.dat (.bl (Ab.inI i ns))) M := ⟨rIn C.g.K false, fun X hX => hX.K ▸ op_in_seq (X := X), fun I H adr σ E v w Q s hv hw q => by
  cases rep_int hv
  cases (show Rep I (.tup (ns.map .int)) w from hw) with
  | @tup p xs _ hp hr =>
    obtain rfl := reps_int hr
    exact ⟨p, _, rfl, .inr (.inl (.inl (s.ex _ _ hp))), rfl, flat_ints ns, by
      show Q (.bl (inV _ _)) H
      rw [inV_ints]
      exact q _ I H adr s Grow.refl (.bl _)⟩⟩
end
end Ab
namespace Ab
open PySem PySem.Spec PyProof.Rows L2
def top (i : Nat) : Stmt := PySem.Challenge.pw_multipliedout_k05_whole_ways_there_and_b.main.body.getD i (.Pass ⟨0, 0, 0, 0⟩)
def tab_SIZES (z : Str) : Option Int := if z = "product" then some 4 else if z = "same" then some 3 else if z = "divides" then some 3 else if z = "not divides" then some 3 else if z = "least" then some 3 else if z = "less" then some 3 else if z = "echelon" then some 2 else none
abbrev s_is_number : Stmt := top 6
abbrev n_is_number : List Str := ["value"]
theorem c_is_number : FnScope n_is_number ["value"] (defScope s_is_number) := ⟨rfl, rfl, rfl, by decide +kernel, rfl, by decide +kernel, by decide +kernel⟩
-- 0:value
abbrev s_is_from_to : Stmt := top 7
abbrev n_is_from_to : List Str := ["value", "least", "most"]
theorem c_is_from_to : FnScope n_is_from_to ["value", "least", "most"] (defScope s_is_from_to) := ⟨rfl, rfl, rfl, by decide +kernel, rfl, by decide +kernel, by decide +kernel⟩
-- 0:value 1:least 2:most
abbrev s_is_row : Stmt := top 8
abbrev n_is_row : List Str := ["value"]
theorem c_is_row : FnScope n_is_row ["value"] (defScope s_is_row) := ⟨rfl, rfl, rfl, by decide +kernel, rfl, by decide +kernel, by decide +kernel⟩
-- 0:value
abbrev s_is_vector : Stmt := top 9
abbrev n_is_vector : List Str := ["value", "one"]
theorem c_is_vector : FnScope n_is_vector ["value"] (defScope s_is_vector) := ⟨rfl, rfl, rfl, by decide +kernel, rfl, by decide +kernel, by decide +kernel⟩
-- 0:value 1:one
abbrev s_is_matrix : Stmt := top 10
abbrev n_is_matrix : List Str := ["value", "row"]
theorem c_is_matrix : FnScope n_is_matrix ["value"] (defScope s_is_matrix) := ⟨rfl, rfl, rfl, by decide +kernel, rfl, by decide +kernel, by decide +kernel⟩
-- 0:value 1:row
abbrev s_checked_matrix : Stmt := top 11
abbrev n_checked_matrix : List Str := ["a", "row"]
theorem c_checked_matrix : FnScope n_checked_matrix ["a"] (defScope s_checked_matrix) := ⟨rfl, rfl, rfl, by decide +kernel, rfl, by decide +kernel, by decide +kernel⟩
-- 0:a 1:row
abbrev s_is_wide : Stmt := top 12
abbrev n_is_wide : List Str := ["value", "row", "one"]
theorem c_is_wide : FnScope n_is_wide ["value"] (defScope s_is_wide) := ⟨rfl, rfl, rfl, by decide +kernel, rfl, by decide +kernel, by decide +kernel⟩
-- 0:value 1:row 2:one
abbrev s_is_line : Stmt := top 13
abbrev n_is_line : List Str := ["value", "size", "one"]
theorem c_is_line : FnScope n_is_line ["value", "size"] (defScope s_is_line) := ⟨rfl, rfl, rfl, by decide +kernel, rfl, by decide +kernel, by decide +kernel⟩
-- 0:value 1:size 2:one
abbrev s_is_table : Stmt := top 14
abbrev n_is_table : List Str := ["value", "rows", "columns", "row"]
theorem c_is_table : FnScope n_is_table ["value", "rows", "columns"] (defScope s_is_table) := ⟨rfl, rfl, rfl, by decide +kernel, rfl, by decide +kernel, by decide +kernel⟩
-- 0:value 1:rows 2:columns 3:row
abbrev s_times : Stmt := top 16
abbrev n_times : List Str := ["one", "other", "left", "right"]
theorem c_times : FnScope n_times ["one", "other"] (defScope s_times) := ⟨rfl, rfl, rfl, by decide +kernel, rfl, by decide +kernel, by decide +kernel⟩
-- 0:one 1:other 2:left 3:right
abbrev s_flipped : Stmt := top 17
abbrev n_flipped : List Str := ["a", "at", "row"]
theorem c_flipped : FnScope n_flipped ["a"] (defScope s_flipped) := ⟨rfl, rfl, rfl, by decide +kernel, rfl, by decide +kernel, by decide +kernel⟩
-- 0:a 1:at 2:row
abbrev s_multiplied : Stmt := top 18
abbrev n_multiplied : List Str := ["a", "b", "columns", "row", "column"]
theorem c_multiplied : FnScope n_multiplied ["a", "b"] (defScope s_multiplied) := ⟨rfl, rfl, rfl, by decide +kernel, rfl, by decide +kernel, by decide +kernel⟩
-- 0:a 1:b 2:columns 3:row 4:column
abbrev s_unit : Stmt := top 19
abbrev n_unit : List Str := ["n", "row", "at"]
theorem c_unit : FnScope n_unit ["n"] (defScope s_unit) := ⟨rfl, rfl, rfl, by decide +kernel, rfl, by decide +kernel, by decide +kernel⟩
-- 0:n 1:row 2:at
abbrev s_less_multiple : Stmt := top 20
abbrev n_less_multiple : List Str := ["v", "k", "w", "one", "other"]
theorem c_less_multiple : FnScope n_less_multiple ["v", "k", "w"] (defScope s_less_multiple) := ⟨rfl, rfl, rfl, by decide +kernel, rfl, by decide +kernel, by decide +kernel⟩
-- 0:v 1:k 2:w 3:one 4:other
abbrev s_lead : Stmt := top 21
abbrev n_lead : List Str := ["v", "at", "one"]
theorem c_lead : FnScope n_lead ["v"] (defScope s_lead) := ⟨rfl, rfl, rfl, by decide +kernel, rfl, by decide +kernel, by decide +kernel⟩
-- 0:v 1:at 2:one
abbrev s_is_echelon : Stmt := top 22
abbrev n_is_echelon : List Str := ["a", "last", "row", "place"]
theorem c_is_echelon : FnScope n_is_echelon ["a"] (defScope s_is_echelon) := ⟨rfl, rfl, rfl, by decide +kernel, rfl, by decide +kernel, by decide +kernel⟩
-- 0:a 1:last 2:row 3:place
abbrev s_numbers_of : Stmt := top 25
abbrev n_numbers_of : List Str := ["a", "row", "one"]
theorem c_numbers_of : FnScope n_numbers_of ["a"] (defScope s_numbers_of) := ⟨rfl, rfl, rfl, by decide +kernel, rfl, by decide +kernel, by decide +kernel⟩
-- 0:a 1:row 2:one
abbrev s_divides_all : Stmt := top 26
abbrev n_divides_all : List Str := ["d", "a", "one"]
theorem c_divides_all : FnScope n_divides_all ["d", "a"] (defScope s_divides_all) := ⟨rfl, rfl, rfl, by decide +kernel, rfl, by decide +kernel, by decide +kernel⟩
-- 0:d 1:a 2:one
abbrev s_is_claim : Stmt := top 27
abbrev n_is_claim : List Str := ["value", "table"]
theorem c_is_claim : FnScope n_is_claim ["value"] (defScope s_is_claim) := ⟨rfl, rfl, rfl, by decide +kernel, rfl, by decide +kernel, by decide +kernel⟩
-- 0:value 1:table
abbrev s_is_product : Stmt := top 28
abbrev n_is_product : List Str := ["a", "b", "c"]
theorem c_is_product : FnScope n_is_product ["a", "b", "c"] (defScope s_is_product) := ⟨rfl, rfl, rfl, by decide +kernel, rfl, by decide +kernel, by decide +kernel⟩
-- 0:a 1:b 2:c
abbrev s_is_so : Stmt := top 29
abbrev n_is_so : List Str := ["claim", "word", "one"]
theorem c_is_so : FnScope n_is_so ["claim"] (defScope s_is_so) := ⟨rfl, rfl, rfl, by decide +kernel, rfl, by decide +kernel, by decide +kernel⟩
-- 0:claim 1:word 2:one
abbrev s_wrong_one : Stmt := top 30
abbrev n_wrong_one : List Str := ["claims", "number", "claim"]
theorem c_wrong_one : FnScope n_wrong_one ["claims"] (defScope s_wrong_one) := ⟨rfl, rfl, rfl, by decide +kernel, rfl, by decide +kernel, by decide +kernel⟩
-- 0:claims 1:number 2:claim
abbrev s_takes : Stmt := top 31
abbrev n_takes : List Str := ["claims"]
theorem c_takes : FnScope n_takes ["claims"] (defScope s_takes) := ⟨rfl, rfl, rfl, by decide +kernel, rfl, by decide +kernel, by decide +kernel⟩
-- 0:claims
abbrev s_first_wrong : Stmt := top 32
abbrev n_first_wrong : List Str := ["claims"]
theorem c_first_wrong : FnScope n_first_wrong ["claims"] (defScope s_first_wrong) := ⟨rfl, rfl, rfl, by decide +kernel, rfl, by decide +kernel, by decide +kernel⟩
-- 0:claims
abbrev s_clear_column : Stmt := top 35
abbrev n_clear_column : List Str := ["work", "top", "column", "below", "best", "at"]
theorem c_clear_column : FnScope n_clear_column ["work", "top", "column"] (defScope s_clear_column) := ⟨rfl, rfl, rfl, by decide +kernel, rfl, by decide +kernel, by decide +kernel⟩
-- 0:work 1:top 2:column 3:below 4:best 5:at
abbrev s_hermite_ways : Stmt := top 36
abbrev n_hermite_ways : List Str := ["a", "work", "top", "column", "pivot", "at"]
theorem c_hermite_ways : FnScope n_hermite_ways ["a"] (defScope s_hermite_ways) := ⟨rfl, rfl, rfl, by decide +kernel, rfl, by decide +kernel, by decide +kernel⟩
-- 0:a 1:work 2:top 3:column 4:pivot 5:at
abbrev s_in_form : Stmt := top 37
abbrev n_in_form : List Str := ["a", "number", "row", "place", "above"]
theorem c_in_form : FnScope n_in_form ["a"] (defScope s_in_form) := ⟨rfl, rfl, rfl, by decide +kernel, rfl, by decide +kernel, by decide +kernel⟩
-- 0:a 1:number 2:row 3:place 4:above
abbrev s_hermite_paper : Stmt := top 38
abbrev n_hermite_paper : List Str := ["a"]
theorem c_hermite_paper : FnScope n_hermite_paper ["a"] (defScope s_hermite_paper) := ⟨rfl, rfl, rfl, by decide +kernel, rfl, by decide +kernel, by decide +kernel⟩
-- 0:a
abbrev s_ways_claims : Stmt := top 39
abbrev n_ways_claims : List Str := ["a", "h", "u", "v"]
theorem c_ways_claims : FnScope n_ways_claims ["a", "h", "u", "v"] (defScope s_ways_claims) := ⟨rfl, rfl, rfl, by decide +kernel, rfl, by decide +kernel, by decide +kernel⟩
-- 0:a 1:h 2:u 3:v
abbrev s_hermite_holds : Stmt := top 40
abbrev n_hermite_holds : List Str := ["a", "value", "one", "rows"]
theorem c_hermite_holds : FnScope n_hermite_holds ["a", "value"] (defScope s_hermite_holds) := ⟨rfl, rfl, rfl, by decide +kernel, rfl, by decide +kernel, by decide +kernel⟩
-- 0:a 1:value 2:one 3:rows
abbrev s_law_draws : Stmt := top 42
abbrev n_law_draws : List Str := ["script", "many", "told", "cell", "number", "k", "state"]
theorem c_law_draws : FnScope n_law_draws ["script", "many"] (defScope s_law_draws) := ⟨rfl, rfl, rfl, by decide +kernel, rfl, by decide +kernel, by decide +kernel⟩
-- 0:script 1:many 2:told 3:cell 4:number 5:k 6:state
abbrev s_law_take : Stmt := top 43
abbrev n_law_take : List Str := ["row", "bound"]
theorem c_law_take : FnScope n_law_take ["row", "bound"] (defScope s_law_take) := ⟨rfl, rfl, rfl, by decide +kernel, rfl, by decide +kernel, by decide +kernel⟩
-- 0:row 1:bound
abbrev s_law_like : Stmt := top 44
abbrev n_law_like : List Str := ["told", "due", "k"]
theorem c_law_like : FnScope n_law_like ["told", "due"] (defScope s_law_like) := ⟨rfl, rfl, rfl, by decide +kernel, rfl, by decide +kernel, by decide +kernel⟩
-- 0:told 1:due 2:k
abbrev s_law_rows : Stmt := top 45
abbrev n_law_rows : List Str := ["a", "line"]
theorem c_law_rows : FnScope n_law_rows ["a"] (defScope s_law_rows) := ⟨rfl, rfl, rfl, by decide +kernel, rfl, by decide +kernel, by decide +kernel⟩
-- 0:a 1:line
abbrev s_law_unit : Stmt := top 46
abbrev n_law_unit : List Str := ["n", "told", "i", "j"]
theorem c_law_unit : FnScope n_law_unit ["n"] (defScope s_law_unit) := ⟨rfl, rfl, rfl, by decide +kernel, rfl, by decide +kernel, by decide +kernel⟩
-- 0:n 1:told 2:i 3:j
abbrev s_law_most : Stmt := top 47
abbrev n_law_most : List Str := ["a", "most", "line", "x"]
theorem c_law_most : FnScope n_law_most ["a"] (defScope s_law_most) := ⟨rfl, rfl, rfl, by decide +kernel, rfl, by decide +kernel, by decide +kernel⟩
-- 0:a 1:most 2:line 3:x
abbrev s_law_deed : Stmt := top 48
abbrev n_law_deed : List Str := ["row", "n", "i", "j"]
theorem c_law_deed : FnScope n_law_deed ["row", "n"] (defScope s_law_deed) := ⟨rfl, rfl, rfl, by decide +kernel, rfl, by decide +kernel, by decide +kernel⟩
-- 0:row 1:n 2:i 3:j
abbrev s_law_lead : Stmt := top 49
abbrev n_law_lead : List Str := ["a", "deed", "told", "i", "x", "c"]
theorem c_law_lead : FnScope n_law_lead ["a", "deed"] (defScope s_law_lead) := ⟨rfl, rfl, rfl, by decide +kernel, rfl, by decide +kernel, by decide +kernel⟩
-- 0:a 1:deed 2:told 3:i 4:x 5:c
abbrev s_law_undo : Stmt := top 50
abbrev n_law_undo : List Str := ["u", "deed", "told", "i", "line", "other"]
theorem c_law_undo : FnScope n_law_undo ["u", "deed"] (defScope s_law_undo) := ⟨rfl, rfl, rfl, by decide +kernel, rfl, by decide +kernel, by decide +kernel⟩
-- 0:u 1:deed 2:told 3:i 4:line 5:other
abbrev s_law_times : Stmt := top 51
abbrev n_law_times : List Str := ["a", "b", "told", "line", "j", "k"]
theorem c_law_times : FnScope n_law_times ["a", "b"] (defScope s_law_times) := ⟨rfl, rfl, rfl, by decide +kernel, rfl, by decide +kernel, by decide +kernel⟩
-- 0:a 1:b 2:told 3:line 4:j 5:k
abbrev s_law_pair : Stmt := top 52
abbrev n_law_pair : List Str := ["row", "n", "v", "u", "k", "deed", "new", "old"]
theorem c_law_pair : FnScope n_law_pair ["row", "n"] (defScope s_law_pair) := ⟨rfl, rfl, rfl, by decide +kernel, rfl, by decide +kernel, by decide +kernel⟩
-- 0:row 1:n 2:v 3:u 4:k 5:deed 6:new 7:old
abbrev s_law_form : Stmt := top 53
abbrev n_law_form : List Str := ["row", "n", "m", "full", "columns", "j", "worths", "told", "i", "line", "k"]
theorem c_law_form : FnScope n_law_form ["row", "n", "m", "full"] (defScope s_law_form) := ⟨rfl, rfl, rfl, by decide +kernel, rfl, by decide +kernel, by decide +kernel⟩
-- 0:row 1:n 2:m 3:full 4:columns 5:j 6:worths 7:told 8:i 9:line 10:k
abbrev s_law_sized : Stmt := top 54
abbrev n_law_sized : List Str := ["a", "n", "m", "line", "x"]
theorem c_law_sized : FnScope n_law_sized ["a", "n", "m"] (defScope s_law_sized) := ⟨rfl, rfl, rfl, by decide +kernel, rfl, by decide +kernel, by decide +kernel⟩
-- 0:a 1:n 2:m 3:line 4:x
abbrev s_law_shows : Stmt := top 55
abbrev n_law_shows : List Str := ["a", "h", "value", "n", "line"]
theorem c_law_shows : FnScope n_law_shows ["a", "h", "value"] (defScope s_law_shows) := ⟨rfl, rfl, rfl, by decide +kernel, rfl, by decide +kernel, by decide +kernel⟩
-- 0:a 1:h 2:value 3:n 4:line
abbrev s_law_still : Stmt := top 56
abbrev n_law_still : List Str := ["row", "n", "r", "z", "i"]
theorem c_law_still : FnScope n_law_still ["row", "n", "r"] (defScope s_law_still) := ⟨rfl, rfl, rfl, by decide +kernel, rfl, by decide +kernel, by decide +kernel⟩
-- 0:row 1:n 2:r 3:z 4:i
abbrev s_law_paper : Stmt := top 57
abbrev n_law_paper : List Str := ["h", "u", "v"]
theorem c_law_paper : FnScope n_law_paper ["h", "u", "v"] (defScope s_law_paper) := ⟨rfl, rfl, rfl, by decide +kernel, rfl, by decide +kernel, by decide +kernel⟩
-- 0:h 1:u 2:v
abbrev s_law_changed : Stmt := top 58
abbrev n_law_changed : List Str := ["row", "a", "told", "i", "j", "line"]
theorem c_law_changed : FnScope n_law_changed ["row", "a"] (defScope s_law_changed) := ⟨rfl, rfl, rfl, by decide +kernel, rfl, by decide +kernel, by decide +kernel⟩
-- 0:row 1:a 2:told 3:i 4:j 5:line
abbrev s_law_bent : Stmt := top 59
abbrev n_law_bent : List Str := ["at", "paper", "h", "u", "v", "ways", "line"]
theorem c_law_bent : FnScope n_law_bent ["at", "paper"] (defScope s_law_bent) := ⟨rfl, rfl, rfl, by decide +kernel, rfl, by decide +kernel, by decide +kernel⟩
-- 0:at 1:paper 2:h 3:u 4:v 5:ways 6:line
abbrev s_law_other : Stmt := top 60
abbrev n_law_other : List Str := ["row", "h", "u", "v", "r", "kind", "n", "deed", "z", "x"]
theorem c_law_other : FnScope n_law_other ["row", "h", "u", "v", "r", "kind"] (defScope s_law_other) := ⟨rfl, rfl, rfl, by decide +kernel, rfl, by decide +kernel, by decide +kernel⟩
-- 0:row 1:h 2:u 3:v 4:r 5:kind 6:n 7:deed 8:z 9:x
abbrev s_law_claimed : Stmt := top 61
abbrev n_law_claimed : List Str := ["row", "a", "h", "u", "v", "n", "good", "bad", "wrong", "place"]
theorem c_law_claimed : FnScope n_law_claimed ["row", "a", "h", "u", "v"] (defScope s_law_claimed) := ⟨rfl, rfl, rfl, by decide +kernel, rfl, by decide +kernel, by decide +kernel⟩
-- 0:row 1:a 2:h 3:u 4:v 5:n 6:good 7:bad 8:wrong 9:place
abbrev s_law_refused : Stmt := top 62
abbrev n_law_refused : List Str := ["row", "a", "h", "u", "v", "r", "kind", "value", "b"]
theorem c_law_refused : FnScope n_law_refused ["row", "a", "h", "u", "v", "r"] (defScope s_law_refused) := ⟨rfl, rfl, rfl, by decide +kernel, rfl, by decide +kernel, by decide +kernel⟩
-- 0:row 1:a 2:h 3:u 4:v 5:r 6:kind 7:value 8:b
abbrev s_law : Stmt := top 63
abbrev n_law : List Str := ["script", "row", "n", "m", "lines", "columns", "worths", "r", "h", "v", "u", "a", "handed", "told", "deed", "far", "back", "k", "line"]
theorem c_law : FnScope n_law ["script"] (defScope s_law) := ⟨rfl, rfl, rfl, by decide +kernel, rfl, by decide +kernel, by decide +kernel⟩
-- 0:script 1:row 2:n 3:m 4:lines 5:columns 6:worths 7:r 8:h 9:v 10:u 11:a 12:handed 13:told 14:deed 15:far 16:back 17:k 18:line
abbrev s_Work_init : Stmt := inClass (top 34) 0
abbrev n_Work_init : List Str := ["self", "a", "row"]
theorem c_Work_init : FnScope n_Work_init ["self", "a"] (defScope s_Work_init) := ⟨rfl, rfl, rfl, by decide +kernel, rfl, by decide +kernel, by decide +kernel⟩
-- 0:self 1:a 2:row
abbrev s_Work_swap : Stmt := inClass (top 34) 1
abbrev n_Work_swap : List Str := ["self", "i", "j", "rows"]
theorem c_Work_swap : FnScope n_Work_swap ["self", "i", "j"] (defScope s_Work_swap) := ⟨rfl, rfl, rfl, by decide +kernel, rfl, by decide +kernel, by decide +kernel⟩
-- 0:self 1:i 2:j 3:rows
abbrev s_Work_turn : Stmt := inClass (top 34) 2
abbrev n_Work_turn : List Str := ["self", "i", "rows", "one"]
theorem c_Work_turn : FnScope n_Work_turn ["self", "i"] (defScope s_Work_turn) := ⟨rfl, rfl, rfl, by decide +kernel, rfl, by decide +kernel, by decide +kernel⟩
-- 0:self 1:i 2:rows 3:one
abbrev s_Work_take : Stmt := inClass (top 34) 3
abbrev n_Work_take : List Str := ["self", "i", "k", "j"]
theorem c_Work_take : FnScope n_Work_take ["self", "i", "k", "j"] (defScope s_Work_take) := ⟨rfl, rfl, rfl, by decide +kernel, rfl, by decide +kernel, by decide +kernel⟩
-- 0:self 1:i 2:k 3:j
abbrev s_Work_ways : Stmt := inClass (top 34) 4
abbrev n_Work_ways : List Str := ["self", "there", "back", "row"]
theorem c_Work_ways : FnScope n_Work_ways ["self"] (defScope s_Work_ways) := ⟨rfl, rfl, rfl, by decide +kernel, rfl, by decide +kernel, by decide +kernel⟩
-- 0:self 1:there 2:back 3:row
class WkCtx where
  Ca : Addr
  cA : Addr
  pA : Addr
open WkCtx
instance [WkCtx] : TabCtx := ⟨[(pA, "clear_column.<locals>.<lambda>")]⟩
variable [WkCtx]
structure Wd (g : Pg) : Prop where
  b : Bs g
  l_clear_column : TxtC g "clear_column" s_clear_column cA pA
  cls_Work : Cls g.K Ca
  no_rows : NoAttr g.K Ca "rows"
  no_there : NoAttr g.K Ca "there"
  no_back : NoAttr g.K Ca "back"
  mg_Work : g.mg "Work" = some (.ref Ca)
  in_Work : ∃ (f : Addr) (fd : FuncData), Fun g.K "__init__" "Work.__init__" s_Work_init f fd ∧ Mk g.K Ca f
  m_swap : TxtM g Ca "Work.swap" "swap" s_Work_swap
  m_turn : TxtM g Ca "Work.turn" "turn" s_Work_turn
  m_take : TxtM g Ca "Work.take" "take" s_Work_take
  m_ways : TxtM g Ca "Work.ways" "ways" s_Work_ways
  seer : g.base.NoSeer
  tree : g.P.given.tree = none
  t_is_number : TxtF g "is_number" s_is_number
  t_is_from_to : TxtF g "is_from_to" s_is_from_to
  t_is_row : TxtF g "is_row" s_is_row
  t_is_vector : TxtF g "is_vector" s_is_vector
  t_is_matrix : TxtF g "is_matrix" s_is_matrix
  t_checked_matrix : TxtF g "checked_matrix" s_checked_matrix
  t_is_wide : TxtF g "is_wide" s_is_wide
  t_is_line : TxtF g "is_line" s_is_line
  t_is_table : TxtF g "is_table" s_is_table
  t_times : TxtF g "times" s_times
  t_flipped : TxtF g "flipped" s_flipped
  t_multiplied : TxtF g "multiplied" s_multiplied
  t_unit : TxtF g "unit" s_unit
  t_less_multiple : TxtF g "less_multiple" s_less_multiple
  t_lead : TxtF g "lead" s_lead
  t_is_echelon : TxtF g "is_echelon" s_is_echelon
  t_numbers_of : TxtF g "numbers_of" s_numbers_of
  t_divides_all : TxtF g "divides_all" s_divides_all
  t_is_claim : TxtF g "is_claim" s_is_claim
  t_is_product : TxtF g "is_product" s_is_product
  t_is_so : TxtF g "is_so" s_is_so
  t_wrong_one : TxtF g "wrong_one" s_wrong_one
  t_takes : TxtF g "takes" s_takes
  t_first_wrong : TxtF g "first_wrong" s_first_wrong
  t_hermite_ways : TxtF g "hermite_ways" s_hermite_ways
  t_in_form : TxtF g "in_form" s_in_form
  t_hermite_paper : TxtF g "hermite_paper" s_hermite_paper
  t_ways_claims : TxtF g "ways_claims" s_ways_claims
  t_hermite_holds : TxtF g "hermite_holds" s_hermite_holds
  t_law_draws : TxtF g "_law_draws" s_law_draws
  t_law_take : TxtF g "_law_take" s_law_take
  t_law_like : TxtF g "_law_like" s_law_like
  t_law_rows : TxtF g "_law_rows" s_law_rows
  t_law_unit : TxtF g "_law_unit" s_law_unit
  t_law_most : TxtF g "_law_most" s_law_most
  t_law_deed : TxtF g "_law_deed" s_law_deed
  t_law_lead : TxtF g "_law_lead" s_law_lead
  t_law_undo : TxtF g "_law_undo" s_law_undo
  t_law_times : TxtF g "_law_times" s_law_times
  t_law_pair : TxtF g "_law_pair" s_law_pair
  t_law_form : TxtF g "_law_form" s_law_form
  t_law_sized : TxtF g "_law_sized" s_law_sized
  t_law_shows : TxtF g "_law_shows" s_law_shows
  t_law_still : TxtF g "_law_still" s_law_still
  t_law_paper : TxtF g "_law_paper" s_law_paper
  t_law_changed : TxtF g "_law_changed" s_law_changed
  t_law_bent : TxtF g "_law_bent" s_law_bent
  t_law_other : TxtF g "_law_other" s_law_other
  t_law_claimed : TxtF g "_law_claimed" s_law_claimed
  t_law_refused : TxtF g "_law_refused" s_law_refused
  t_law : TxtF g "law" s_law
  g_MOST_SIZE : ∃ t, g.mg "MOST_SIZE" = some (.int 8 t)
  g_MOST_NUMBER : ∃ t, g.mg "MOST_NUMBER" = some (.int 1000000 t)
  g_SIZES : TabK g "SIZES" tab_SIZES
end Ab
end
set_option maxHeartbeats 0
/-! ### the head -/
namespace Ab
open PySem PySem.Spec PyProof.Rows L2
def d_is_number : He.DefD := ⟨("is_number", none), "is_number", "is_number", defArgs s_is_number, defBody s_is_number, defScope s_is_number, [], []⟩
def d_is_from_to : He.DefD := ⟨("is_from_to", none), "is_from_to", "is_from_to", defArgs s_is_from_to, defBody s_is_from_to, defScope s_is_from_to, [], []⟩
def d_is_row : He.DefD := ⟨("is_row", none), "is_row", "is_row", defArgs s_is_row, defBody s_is_row, defScope s_is_row, [], []⟩
def d_is_vector : He.DefD := ⟨("is_vector", none), "is_vector", "is_vector", defArgs s_is_vector, defBody s_is_vector, defScope s_is_vector, [], []⟩
def d_is_matrix : He.DefD := ⟨("is_matrix", none), "is_matrix", "is_matrix", defArgs s_is_matrix, defBody s_is_matrix, defScope s_is_matrix, [], []⟩
def d_checked_matrix : He.DefD := ⟨("checked_matrix", none), "checked_matrix", "checked_matrix", defArgs s_checked_matrix, defBody s_checked_matrix, defScope s_checked_matrix, [], []⟩
def d_is_wide : He.DefD := ⟨("is_wide", none), "is_wide", "is_wide", defArgs s_is_wide, defBody s_is_wide, defScope s_is_wide, [], []⟩
def d_is_line : He.DefD := ⟨("is_line", none), "is_line", "is_line", defArgs s_is_line, defBody s_is_line, defScope s_is_line, [], []⟩
def d_is_table : He.DefD := ⟨("is_table", none), "is_table", "is_table", defArgs s_is_table, defBody s_is_table, defScope s_is_table, [], []⟩
def d_times : He.DefD := ⟨("times", none), "times", "times", defArgs s_times, defBody s_times, defScope s_times, [], []⟩
def d_flipped : He.DefD := ⟨("flipped", none), "flipped", "flipped", defArgs s_flipped, defBody s_flipped, defScope s_flipped, [], []⟩
def d_multiplied : He.DefD := ⟨("multiplied", none), "multiplied", "multiplied", defArgs s_multiplied, defBody s_multiplied, defScope s_multiplied, [], []⟩
def d_unit : He.DefD := ⟨("unit", none), "unit", "unit", defArgs s_unit, defBody s_unit, defScope s_unit, [], []⟩
def d_less_multiple : He.DefD := ⟨("less_multiple", none), "less_multiple", "less_multiple", defArgs s_less_multiple, defBody s_less_multiple, defScope s_less_multiple, [], []⟩
def d_lead : He.DefD := ⟨("lead", none), "lead", "lead", defArgs s_lead, defBody s_lead, defScope s_lead, [], []⟩
def d_is_echelon : He.DefD := ⟨("is_echelon", none), "is_echelon", "is_echelon", defArgs s_is_echelon, defBody s_is_echelon, defScope s_is_echelon, [], []⟩
def d_numbers_of : He.DefD := ⟨("numbers_of", none), "numbers_of", "numbers_of", defArgs s_numbers_of, defBody s_numbers_of, defScope s_numbers_of, [], []⟩
def d_divides_all : He.DefD := ⟨("divides_all", none), "divides_all", "divides_all", defArgs s_divides_all, defBody s_divides_all, defScope s_divides_all, [], []⟩
def d_is_claim : He.DefD := ⟨("is_claim", none), "is_claim", "is_claim", defArgs s_is_claim, defBody s_is_claim, defScope s_is_claim, [], []⟩
def d_is_product : He.DefD := ⟨("is_product", none), "is_product", "is_product", defArgs s_is_product, defBody s_is_product, defScope s_is_product, [], []⟩
def d_is_so : He.DefD := ⟨("is_so", none), "is_so", "is_so", defArgs s_is_so, defBody s_is_so, defScope s_is_so, [], []⟩
def d_wrong_one : He.DefD := ⟨("wrong_one", none), "wrong_one", "wrong_one", defArgs s_wrong_one, defBody s_wrong_one, defScope s_wrong_one, [], []⟩
def d_takes : He.DefD := ⟨("takes", none), "takes", "takes", defArgs s_takes, defBody s_takes, defScope s_takes, [], []⟩
def d_first_wrong : He.DefD := ⟨("first_wrong", none), "first_wrong", "first_wrong", defArgs s_first_wrong, defBody s_first_wrong, defScope s_first_wrong, [], []⟩
def d_clear_column : He.DefD := ⟨("clear_column", none), "clear_column", "clear_column", defArgs s_clear_column, defBody s_clear_column, defScope s_clear_column, [], []⟩
def d_hermite_ways : He.DefD := ⟨("hermite_ways", none), "hermite_ways", "hermite_ways", defArgs s_hermite_ways, defBody s_hermite_ways, defScope s_hermite_ways, [], []⟩
def d_in_form : He.DefD := ⟨("in_form", none), "in_form", "in_form", defArgs s_in_form, defBody s_in_form, defScope s_in_form, [], []⟩
def d_hermite_paper : He.DefD := ⟨("hermite_paper", none), "hermite_paper", "hermite_paper", defArgs s_hermite_paper, defBody s_hermite_paper, defScope s_hermite_paper, [], []⟩
def d_ways_claims : He.DefD := ⟨("ways_claims", none), "ways_claims", "ways_claims", defArgs s_ways_claims, defBody s_ways_claims, defScope s_ways_claims, [], []⟩
def d_hermite_holds : He.DefD := ⟨("hermite_holds", none), "hermite_holds", "hermite_holds", defArgs s_hermite_holds, defBody s_hermite_holds, defScope s_hermite_holds, [], []⟩
def d_law_draws : He.DefD := ⟨("_law_draws", none), "_law_draws", "_law_draws", defArgs s_law_draws, defBody s_law_draws, defScope s_law_draws, [], []⟩
def d_law_take : He.DefD := ⟨("_law_take", none), "_law_take", "_law_take", defArgs s_law_take, defBody s_law_take, defScope s_law_take, [], []⟩
def d_law_like : He.DefD := ⟨("_law_like", none), "_law_like", "_law_like", defArgs s_law_like, defBody s_law_like, defScope s_law_like, [], []⟩
def d_law_rows : He.DefD := ⟨("_law_rows", none), "_law_rows", "_law_rows", defArgs s_law_rows, defBody s_law_rows, defScope s_law_rows, [], []⟩
def d_law_unit : He.DefD := ⟨("_law_unit", none), "_law_unit", "_law_unit", defArgs s_law_unit, defBody s_law_unit, defScope s_law_unit, [], []⟩
def d_law_most : He.DefD := ⟨("_law_most", none), "_law_most", "_law_most", defArgs s_law_most, defBody s_law_most, defScope s_law_most, [], []⟩
def d_law_deed : He.DefD := ⟨("_law_deed", none), "_law_deed", "_law_deed", defArgs s_law_deed, defBody s_law_deed, defScope s_law_deed, [], []⟩
def d_law_lead : He.DefD := ⟨("_law_lead", none), "_law_lead", "_law_lead", defArgs s_law_lead, defBody s_law_lead, defScope s_law_lead, [], []⟩
def d_law_undo : He.DefD := ⟨("_law_undo", none), "_law_undo", "_law_undo", defArgs s_law_undo, defBody s_law_undo, defScope s_law_undo, [], []⟩
def d_law_times : He.DefD := ⟨("_law_times", none), "_law_times", "_law_times", defArgs s_law_times, defBody s_law_times, defScope s_law_times, [], []⟩
def d_law_pair : He.DefD := ⟨("_law_pair", none), "_law_pair", "_law_pair", defArgs s_law_pair, defBody s_law_pair, defScope s_law_pair, [], []⟩
def d_law_form : He.DefD := ⟨("_law_form", none), "_law_form", "_law_form", defArgs s_law_form, defBody s_law_form, defScope s_law_form, [], []⟩
def d_law_sized : He.DefD := ⟨("_law_sized", none), "_law_sized", "_law_sized", defArgs s_law_sized, defBody s_law_sized, defScope s_law_sized, [], []⟩
def d_law_shows : He.DefD := ⟨("_law_shows", none), "_law_shows", "_law_shows", defArgs s_law_shows, defBody s_law_shows, defScope s_law_shows, [], []⟩
def d_law_still : He.DefD := ⟨("_law_still", none), "_law_still", "_law_still", defArgs s_law_still, defBody s_law_still, defScope s_law_still, [], []⟩
def d_law_paper : He.DefD := ⟨("_law_paper", none), "_law_paper", "_law_paper", defArgs s_law_paper, defBody s_law_paper, defScope s_law_paper, [], []⟩
def d_law_changed : He.DefD := ⟨("_law_changed", none), "_law_changed", "_law_changed", defArgs s_law_changed, defBody s_law_changed, defScope s_law_changed, [], []⟩
def d_law_bent : He.DefD := ⟨("_law_bent", none), "_law_bent", "_law_bent", defArgs s_law_bent, defBody s_law_bent, defScope s_law_bent, [], []⟩
def d_law_other : He.DefD := ⟨("_law_other", none), "_law_other", "_law_other", defArgs s_law_other, defBody s_law_other, defScope s_law_other, [], []⟩
def d_law_claimed : He.DefD := ⟨("_law_claimed", none), "_law_claimed", "_law_claimed", defArgs s_law_claimed, defBody s_law_claimed, defScope s_law_claimed, [], []⟩
def d_law_refused : He.DefD := ⟨("_law_refused", none), "_law_refused", "_law_refused", defArgs s_law_refused, defBody s_law_refused, defScope s_law_refused, [], []⟩
def d_law : He.DefD := ⟨("law", none), "law", "law", defArgs s_law, defBody s_law, defScope s_law, [], []⟩
def d_Work_init : He.DefD := ⟨("Work", some "__init__"), "__init__", "Work.__init__", defArgs s_Work_init, defBody s_Work_init, defScope s_Work_init, [], []⟩
def d_Work_swap : He.DefD := ⟨("Work", some "swap"), "swap", "Work.swap", defArgs s_Work_swap, defBody s_Work_swap, defScope s_Work_swap, [], []⟩
def d_Work_turn : He.DefD := ⟨("Work", some "turn"), "turn", "Work.turn", defArgs s_Work_turn, defBody s_Work_turn, defScope s_Work_turn, [], []⟩
def d_Work_take : He.DefD := ⟨("Work", some "take"), "take", "Work.take", defArgs s_Work_take, defBody s_Work_take, defScope s_Work_take, [], []⟩
def d_Work_ways : He.DefD := ⟨("Work", some "ways"), "ways", "Work.ways", defArgs s_Work_ways, defBody s_Work_ways, defScope s_Work_ways, [], []⟩
def hfn0 : List He.DefD := [d_is_number, d_is_from_to, d_is_row, d_is_vector, d_is_matrix, d_checked_matrix, d_is_wide, d_is_line, d_is_table, d_times, d_flipped, d_multiplied, d_unit, d_less_multiple, d_lead, d_is_echelon, d_numbers_of, d_divides_all, d_is_claim, d_is_product]
def hfn1 : List He.DefD := [d_is_so, d_wrong_one, d_takes, d_first_wrong, d_clear_column, d_hermite_ways, d_in_form, d_hermite_paper, d_ways_claims, d_hermite_holds, d_law_draws, d_law_take, d_law_like, d_law_rows, d_law_unit, d_law_most, d_law_deed, d_law_lead, d_law_undo, d_law_times]
def hfn2 : List He.DefD := [d_law_pair, d_law_form, d_law_sized, d_law_shows, d_law_still, d_law_paper, d_law_changed, d_law_bent, d_law_other, d_law_claimed, d_law_refused, d_law, d_Work_init, d_Work_swap, d_Work_turn, d_Work_take, d_Work_ways]
def hfn : List He.DefD := hfn0 ++ hfn1 ++ hfn2
def hfa0 : List He.Fa := [.glo "is_number", .glo "is_from_to", .glo "is_row", .glo "is_vector", .glo "is_matrix", .glo "checked_matrix", .glo "is_wide", .glo "is_line", .glo "is_table", .glo "times", .glo "flipped", .glo "multiplied", .glo "unit", .glo "less_multiple", .glo "lead", .glo "is_echelon", .glo "numbers_of", .glo "divides_all", .glo "is_claim", .glo "is_product"]
def hfa1 : List He.Fa := [.glo "is_so", .glo "wrong_one", .glo "takes", .glo "first_wrong", .glo "clear_column", .glo "hermite_ways", .glo "in_form", .glo "hermite_paper", .glo "ways_claims", .glo "hermite_holds", .glo "_law_draws", .glo "_law_take", .glo "_law_like", .glo "_law_rows", .glo "_law_unit", .glo "_law_most", .glo "_law_deed", .glo "_law_lead", .glo "_law_undo", .glo "_law_times"]
def hfa2 : List He.Fa := [.glo "_law_pair", .glo "_law_form", .glo "_law_sized", .glo "_law_shows", .glo "_law_still", .glo "_law_paper", .glo "_law_changed", .glo "_law_bent", .glo "_law_other", .glo "_law_claimed", .glo "_law_refused", .glo "law", .free "len", .free "sum", .free "all", .free "any", .free "abs", .free "min", .free "max", .free "int"]
def hfa3 : List He.Fa := [.free "bool", .free "str", .free "tuple", .free "list", .free "range", .free "zip", .free "enumerate", .free "isinstance", .free "reversed", .free "sorted", .int "MOST_SIZE" 8, .int "MOST_NUMBER" 1000000, .cls "Work", .noat "Work" "rows", .noat "Work" "there", .noat "Work" "back", .meth "Work" "swap", .meth "Work" "turn", .meth "Work" "take", .meth "Work" "ways"]
def hfa4 : List He.Fa := [.mkr "Work", .glo "Work", .glo "SIZES"]
def hfa : List He.Fa := hfa0 ++ hfa1 ++ hfa2 ++ hfa3 ++ hfa4
def hloose0 : List Str := ["__name__", "CoreError", "InvalidMatrix", "MOST_SIZE", "MOST_NUMBER", "is_number", "is_from_to", "is_row", "is_vector", "is_matrix", "checked_matrix", "is_wide", "is_line", "is_table", "times", "flipped", "multiplied", "unit", "less_multiple", "lead"]
def hloose1 : List Str := ["is_echelon", "SIZES", "numbers_of", "divides_all", "is_claim", "is_product", "is_so", "wrong_one", "takes", "first_wrong", "Work", "clear_column", "hermite_ways", "in_form", "hermite_paper", "ways_claims", "hermite_holds", "_law_draws", "_law_take", "_law_like"]
def hloose2 : List Str := ["_law_rows", "_law_unit", "_law_most", "_law_deed", "_law_lead", "_law_undo", "_law_times", "_law_pair", "_law_form", "_law_sized", "_law_shows", "_law_still", "_law_paper", "_law_changed", "_law_bent", "_law_other", "_law_claimed", "_law_refused"]
def hloose : List Str := hloose0 ++ hloose1 ++ hloose2
def hts : List He.Tab := [(fun K => He.ga K "SIZES", ["product", "same", "divides", "not divides", "least", "less", "echelon"])]
def keysB (K : PySem.W.Frag) (a : Addr) (ks : List Str) : Bool := match K.lookup a with
  | some ⟨_, _, .dict es _, _⟩ => es.toList.all fun e => match e.key with
    | .str x _ => ks.contains x
    | _ => false
  | _ => false
def hex (K : PySem.W.Frag) : Bool := (He.valsB K (He.ga K "SIZES") [("product", .int 4), ("same", .int 3), ("divides", .int 3), ("not divides", .int 3), ("least", .int 3), ("less", .int 3), ("echelon", .int 2)] && keysB K (He.ga K "SIZES") ["product", "same", "divides", "not divides", "least", "less", "echelon"])
theorem keys_none {K : PySem.W.Frag} {a : Addr} {ks : List Str} {z : Str} {es : Array DictEntry} {n : Nat} {w : World} (D : KDict K w a es n) (h : keysB K a ks = true) (hz : z ∉ ks) : PySem.W.nsIn K a z = some none := by
  unfold keysB at h
  rw [D.at_] at h
  have h' := List.all_eq_true.mp h
  unfold PySem.W.nsIn
  rw [D.at_]
  have key : ∀ e ∈ es.toList, ∃ x t, e.key = .str x t ∧ x ∈ ks := fun e he => by
    have := h' e he
    cases hk : e.key with
    | str x t =>
      rw [hk] at this
      exact ⟨x, t, rfl, by simpa using this⟩
    | _ => rw [hk] at this; cases this
  have e1 : es.toList.find? (·.key.isStr z) = none := List.find?_eq_none.mpr fun e he => by
    obtain ⟨x, t, hk, hx⟩ := key e he
    rw [hk]
    intro q
    have : x = z := by simpa [Value.isStr] using q
    exact hz (this ▸ hx)
  have e2 : es.toList.any (·.refKey) = false := List.any_eq_false.mpr fun e he => by
    obtain ⟨x, t, hk, hx⟩ := key e he
    unfold DictEntry.refKey
    rw [hk]
    exact Bool.false_ne_true
  show (match es.toList.find? (·.key.isStr z) with | some e => some (some e.val) | none => if es.toList.any (·.refKey) then none else some none) = _
  rw [e1]
  show (if es.toList.any (·.refKey) = true then none else some none) = _
  rw [e2]
  rfl
/-- what the module's names reach, and three tables of the interpreter -/
def asY (g : Addr → Option Obj) : List Addr := cStatics :: sysModules :: builtinsNs :: He.asD g 5
def kY (g : Addr → Option Obj) : PySem.W.Frag := He.frT g (asY g)
def seenY (K : PySem.W.Frag) : Bool := (K.lookup cStatics).isSome && ((K.lookup sysModules).isSome && (K.lookup builtinsNs).isSome)
def exY (K : PySem.W.Frag) : Bool := seenY K && hex K
abbrev hcl : He.Defn := ("clear_column", none)
abbrev htf : List He.Defn := [hcl]
def obY (g : Addr → Option Obj) : He.AlX := (He.obsT hfa hfn hts (kY g), exY (kY g) && He.tabsB g htf (kY g))
abbrev TellsY (w : World) (h : Heap) (K : PySem.W.Frag) : Prop := He.SaysX hfa hfn hts htf exY w h K
theorem tellsY {w : World} {h : Heap} (e : obY h.get? = He.valX hfn hts w) : TellsY w h (kY h.get?) := by
  obtain ⟨e1, e2⟩ := Prod.mk.inj (show (He.obsT hfa hfn hts (kY h.get?), exY (kY h.get?) && He.tabsB h.get? htf (kY h.get?)) = (He.valT hfn hts w, true) from e)
  obtain ⟨e3, e4⟩ := Bool.and_eq_true_iff.mp e2
  have tb := fun p hp => Bool.and_eq_true_iff.mp (List.all_eq_true.mp e4 p hp)
  have lk : ∀ p ∈ htf, ∃ u, h.get? (He.cT (kY h.get?) p).2 = some u ∧ He.emptyTab u = true := fun p hp => by
    have z := (tb p hp).2
    generalize h.get? (He.cT (kY h.get?) p).2 = r at z ⊢
    cases r with
    | some u => exact ⟨u, rfl, z⟩
    | none => cases z
  exact ⟨e1, e3, fun p hp => (tb p hp).1, fun p hp => let ⟨_, q, z⟩ := lk p hp; He.frT_none q z, fun p hp => let ⟨_, q, z⟩ := lk p hp; q.trans (congrArg some (He.emptyTab_eq z))⟩
abbrev HR : PySem.W.OpenRow := PySem.W.OpenLaw.row PySem.Challenge.rw_multipliedout_k05_whole_ways_there_and_b
def hhk : PySem.W.Hook where
  α := He.AlX
  obs s := obY s.heap.get?
  val w := He.valX hfn hts w
  says w h := ∃ K : PySem.W.Frag, K.In h ∧ TellsY w h K
  of _ _ e := ⟨_, He.frT_in, tellsY e⟩
  keeps _ _ _ := fun ⟨K, hK, c⟩ k => ⟨K, hK.keeps k, ⟨c.t, c.more, c.hd, c.out, fun p hp => k _ _ (c.empty p hp)⟩⟩
def hob (s : PySem.W.SharedT) : He.AlX := obY (HandSHeadRun.getT s)
theorem hob_eq (s : PySem.W.SharedT) : hob s = hhk.obs s.abs := congrArg obY (funext (HandSHeadRun.getT_eq s))
theorem hrunF (w : World) : HandSHeadRun.RunEq HR (PySem.W.view HR.prog [63]) hhk hob 20000 hloose (w.withFollow "special-get-raises" false) := by intro os; kernel_rfl
theorem hrunT (w : World) : HandSHeadRun.RunEq HR (PySem.W.view HR.prog [63]) hhk hob 20000 hloose (w.withFollow "special-get-raises" true) := by intro os; kernel_rfl
theorem hrun (w : World) : HandSHeadRun.RunEq HR (PySem.W.view HR.prog [63]) hhk hob 20000 hloose w :=
  PySem.W.byRow2 "special-get-raises" (P := fun w => HandSHeadRun.RunEq HR (PySem.W.view HR.prog [63]) hhk hob 20000 hloose w) hrunF hrunT w
end Ab
set_option maxHeartbeats 4000000
section
set_option autoImplicit false
namespace Ab
open PySem PySem.Spec PyProof.Rows L2
variable [WkCtx]
open WkCtx
section
/-! ### looks -/
section
variable {g : Pg}
def isFT (d : D) (l m : Int) : Bool := match d with
  | .int i => decide (l ≤ i) && decide (i ≤ m)
  | _ => false
def D.isSeq (d : D) : Bool := d.isLst || d.isTup
def F_is_number (d r : D) : Prop := r = .bl d.isNum
theorem ok_is_number (W : Wd g) : FN g "is_number" 1 (P1 F_is_number) := by
  refine FN.mk1 W.t_is_number c_is_number (fun _ _ _ _ _ _ us hl => match us, hl with | [_], _ => rfl) (fun d r h => ?_)
  subst h
  exact SB.one (ST.ret (EV.to (EV.and (EV.isInt (EV.nm 0) W.b.isinstance W.b.int) (fun _ => EV.and1 (EV.not (EV.isBool (EV.nm 0) W.b.isinstance W.b.bool))) (fun _ => rfl)) (by cases d <;> rfl)))
def F_is_from_to (d e f r : D) : Prop := ∃ l m, e = .int l ∧ f = .int m ∧ r = .bl (isFT d l m)
theorem ok_is_from_to (W : Wd g) : FN g "is_from_to" 2 (P3 F_is_from_to) := by
  refine FN.mk3 W.t_is_from_to c_is_from_to (fun _ _ _ _ _ _ us hl => match us, hl with | [_, _, _], _ => rfl) (fun d e f r h => ?_)
  obtain ⟨l, m, rfl, rfl, rfl⟩ := h
  cases d with
  | int i => exact SB.one (ST.ret (EV.to (EV.and (EV.c1 (ok_is_number W) (EV.nm 0) (by exact rfl)) (fun _ => EV.and1 (EV.chain (M4 := []) (EV.nm 1) (EV.nm 0) CS.leI (fun _ => EV.nm 2) (fun _ => CS.leI) (fun _ => rfl))) (fun _ => rfl)) rfl))
  | _ => exact SB.one (ST.ret (EV.to (EV.and (k1 := false) (k2 := false) (EV.c1 (ok_is_number W) (EV.nm 0) (by exact rfl)) (fun z => nomatch z) (fun _ => rfl)) rfl))
def F_is_row (d r : D) : Prop := r = .bl d.isSeq
theorem ok_is_row (W : Wd g) : FN g "is_row" 1 (P1 F_is_row) := by
  refine FN.mk1 W.t_is_row c_is_row (fun _ _ _ _ _ _ us hl => match us, hl with | [_], _ => rfl) (fun d r h => ?_)
  subst h
  exact SB.one (ST.ret (EV.isi2 (EV.nm 0) W.b.isinstance W.b.list W.b.tuple bv_list bv_tuple kit_list kit_tuple))
theorem seq_of {d : D} {ds : List D} (h : seqD d = some ds) : d.isSeq = true ∧ lenD d = some ds.length := by
  cases d <;> first | (cases h; exact ⟨rfl, rfl⟩) | cases h
theorem seq_no {d : D} (h : seqD d = none) : d.isSeq = false := by
  cases d <;> first | rfl | cases h
def isVec (d : D) : Bool := match seqD d with
  | some ds => (decide ((1 : Int) ≤ ds.length) && decide ((ds.length : Int) ≤ 8)) && ds.all fun e => isFT e (-1000000) 1000000
  | none => false
theorem gd1 {b : Bool} (h : (!true || !b) = true) : b = false := by cases b <;> simp_all
theorem gd2 {b : Bool} (h : (!true || !b) = false) : b = true := by cases b <;> simp_all
theorem all_map {α : Type} (f : α → Bool) (xs : List α) : (xs.map f).all id = xs.all f := by
  rw [List.all_map]
  rfl
theorem ok_is_vector (W : Wd g) : FN g "is_vector" 3 (P1 fun d r => r = .bl (isVec d)) := by
  refine FN.mk1 W.t_is_vector c_is_vector (fun _ _ _ _ _ _ us hl => match us, hl with | [_], _ => rfl) (fun d r h => ?_)
  subst h
  obtain ⟨tk, gS⟩ := W.g_MOST_SIZE
  obtain ⟨tk2, gN⟩ := W.g_MOST_NUMBER
  cases hd : seqD d with
  | none =>
    refine SB.guard (EW.et (EW.or (k1 := !d.isSeq) (k2 := false) (ET.not (ET.val (EV.c1 (ok_is_row W) (EV.nm 0) (by exact rfl)))) (fun z => by rw [seq_no hd] at z; cases z) (fun _ => rfl))) (fun _ => SB.one (ST.ret (EV.to EV.bl ?_))) (fun z => by rw [seq_no hd] at z; cases z)
    unfold isVec
    rw [hd]
  | some ds =>
    obtain ⟨h1, h2⟩ := seq_of hd
    refine SB.guard (EW.et (EW.or (ET.not (ET.val (EV.c1 (ok_is_row W) (EV.nm 0) (by exact rfl)))) (fun _ => EW.or1 (ET.not (ET.chain EV.int (EV.len (EV.nm 0) h2 W.b.len) CS.leI (fun _ => EV.gint gS) (fun _ => CS.leI) (fun _ => rfl)))) (fun _ => rfl))) (fun z => ?_) (fun z => ?_)
    · refine SB.one (ST.ret (EV.to EV.bl ?_))
      unfold isVec
      rw [hd]
      rw [h1] at z
      have z' : (decide ((1 : Int) ≤ ds.length) && decide ((ds.length : Int) ≤ 8)) = false := gd1 z
      show O.dat (.bl false) = O.dat (.bl ((decide ((1 : Int) ≤ ds.length) && decide ((ds.length : Int) ≤ 8)) && _))
      rw [z', Bool.false_and]
    · rw [h1] at z
      have z' : (decide ((1 : Int) ≤ ds.length) && decide ((ds.length : Int) ≤ 8)) = true := gd2 z
      have hlen : ds.length < 100000 := by
        rw [Bool.and_eq_true, decide_eq_true_eq, decide_eq_true_eq] at z'
        omega
      refine SB.one (ST.ret (EV.to (EV.all (bs := ds.map fun e => isFT e (-1000000) 1000000) ?_ W.b.all) ?_))
      · rw [List.map_map]
        exact LC.ev (LC.lM 1 (xs := ds) (f := fun e => e) (own := [("one", 1)]) (by rfl) c_is_vector.nd rfl (EV.nm 0) (by rw [hd, List.map_id']) (Nat.le_refl _) OkM.refl hlen
          (fun y _ M => EV.c3 (ok_is_from_to W) (EV.nm 1) (EV.neg (EV.gint gN)) (EV.gint gN) ⟨-1000000, 1000000, rfl, rfl, rfl⟩))
      · unfold isVec
        rw [hd, all_map]
        show _ = O.dat (.bl ((decide ((1 : Int) ≤ ds.length) && decide ((ds.length : Int) ≤ 8)) && _))
        rw [z', Bool.true_and]
def isMat (d : D) : Bool := match seqD d with
  | some ds => (decide ((1 : Int) ≤ ds.length) && decide ((ds.length : Int) ≤ 8)) && (ds.all isVec && ds.all fun e => decide (((lenD e).getD 0 : Nat) = ((lenD (ds.headD .non)).getD 0 : Nat)))
  | none => false
theorem vec_len {e : D} (h : isVec e = true) : ∃ es, seqD e = some es ∧ lenD e = some es.length := by
  unfold isVec at h
  cases hd : seqD e with
  | none => rw [hd] at h; cases h
  | some es => exact ⟨es, rfl, (seq_of hd).2⟩
theorem gd3 {b c : Bool} (h : (!true || (!b || !c)) = true) : (b && c) = false := by cases b <;> cases c <;> simp_all
theorem gd4 {b c : Bool} (h : (!true || (!b || !c)) = false) : b = true ∧ c = true := by cases b <;> cases c <;> simp_all
theorem ok_is_matrix (W : Wd g) : FN g "is_matrix" 4 (P1 fun d r => r = .bl (isMat d)) := by
  refine FN.mk1 W.t_is_matrix c_is_matrix (fun _ _ _ _ _ _ us hl => match us, hl with | [_], _ => rfl) (fun d r h => ?_)
  subst h
  obtain ⟨tk, gS⟩ := W.g_MOST_SIZE
  cases hd : seqD d with
  | none =>
    refine SB.guard (EW.et (EW.or (k1 := !d.isSeq) (k2 := false) (ET.not (ET.val (EV.c1 (ok_is_row W) (EV.nm 0) (by exact rfl)))) (fun z => by rw [seq_no hd] at z; cases z) (fun _ => rfl))) (fun _ => SB.one (ST.ret (EV.to EV.bl ?_))) (fun z => by rw [seq_no hd] at z; cases z)
    unfold isMat
    rw [hd]
  | some ds =>
    obtain ⟨h1, h2⟩ := seq_of hd
    have hall : ∀ {q1 : Pos} {E : List O} (hlen : (decide ((1 : Int) ≤ ds.length) && decide ((ds.length : Int) ≤ 8)) = true), ds.length < 100000 := fun {_ _} z => by
      rw [Bool.and_eq_true, decide_eq_true_eq, decide_eq_true_eq] at z
      omega
    refine SB.guard (k := !d.isSeq || (!(decide ((1 : Int) ≤ ds.length) && decide ((ds.length : Int) ≤ 8)) || !(ds.map isVec).all id)) (EW.et (EW.or (ET.not (ET.val (EV.c1 (ok_is_row W) (EV.nm 0) (by exact rfl)))) (fun _ => EW.or (ET.not (ET.chain EV.int (EV.len (EV.nm 0) h2 W.b.len) CS.leI (fun _ => EV.gint gS) (fun _ => CS.leI) (fun _ => rfl))) (fun z => EW.or1 (ET.not (ET.val (EV.all ?_ W.b.all)))) (fun _ => rfl)) (fun _ => rfl))) (fun z => ?_) (fun z => ?_)
    · rw [List.map_map]
      exact LC.ev (LC.lM 1 (xs := ds) (f := fun e => e) (own := [("row", 1)]) (by rfl) c_is_matrix.nd rfl (EV.nm 0) (by rw [hd, List.map_id']) (Nat.le_refl _) OkM.refl (hall (q1 := ⟨0, 0, 0, 0⟩) (E := []) (by simpa using z))
          (fun y _ M => EV.c1 (ok_is_vector W) (EV.nm 1) (by exact rfl)))
    · refine SB.one (ST.ret (EV.to EV.bl ?_))
      unfold isMat
      rw [hd]
      rw [h1, all_map] at z
      show O.dat (.bl false) = O.dat (.bl ((decide ((1 : Int) ≤ ds.length) && decide ((ds.length : Int) ≤ 8)) && (ds.all isVec && _)))
      rw [← Bool.and_assoc, gd3 z, Bool.false_and]
    · rw [h1, all_map] at z
      obtain ⟨z1, z2⟩ := gd4 z
      have hl := hall (q1 := ⟨0, 0, 0, 0⟩) (E := []) z1
      have hv : ∀ e ∈ ds, isVec e = true := List.all_eq_true.mp z2
      obtain ⟨e0, r0, rfl⟩ : ∃ e0 r0, ds = e0 :: r0 := by
        cases ds with
        | nil => simp at z1
        | cons e0 r0 => exact ⟨e0, r0, rfl⟩
      obtain ⟨es0, p0, q0⟩ := vec_len (hv e0 List.mem_cons_self)
      have hix : ixD d ((0 : Nat) : Int) = some e0 := by
        cases d <;> first | (cases hd; exact atI_nat rfl) | cases hd
      refine SB.one (ST.ret (EV.to (EV.all (bs := (e0 :: r0).map fun e => decide ((((lenD e).getD 0 : Nat) : Int) = ((es0.length : Nat) : Int))) ?_ W.b.all) ?_))
      · rw [List.map_map]
        refine LC.ev (LC.lM 1 (xs := e0 :: r0) (f := fun e => e) (own := [("row", 1)]) (by rfl) c_is_matrix.nd rfl (EV.nm 0) (by rw [hd, List.map_id']) (Nat.le_refl _) OkM.refl hl (fun y hy M => ?_))
        obtain ⟨es, p1, q1⟩ := vec_len (hv y hy)
        have e1 : (lenD y).getD 0 = es.length := by rw [q1]; rfl
        show EV _ _ _ _ (.dat (.bl (decide ((((lenD y).getD 0 : Nat) : Int) = ((es0.length : Nat) : Int))))) _
        rw [e1]
        exact EV.cm (EV.len (EV.nm 1) q1 W.b.len) (EV.len (EV.ix (EV.nm 0) EV.int hix) q0 W.b.len) CS.eqI
      · unfold isMat
        rw [hd, all_map]
        show _ = O.dat (.bl ((decide ((1 : Int) ≤ ((e0 :: r0).length : Nat)) && decide (((e0 :: r0).length : Int) ≤ 8)) && ((e0 :: r0).all isVec && _)))
        rw [z1, z2, Bool.true_and, Bool.true_and]
        show O.dat (.bl ((e0 :: r0).all _)) = O.dat (.bl ((e0 :: r0).all _))
        congr 3
        funext e
        rw [Bool.eq_iff_iff]
        simp [q0]
        constructor <;> intro h <;> omega
end
/-! ### the mathematics of rows -/
def wd (m : List (List Int)) : Nat := (m.headD []).length
structure Mx (m : List (List Int)) : Prop where
  l1 : 1 ≤ m.length
  l8 : m.length ≤ 8
  w1 : 1 ≤ wd m
  w8 : wd m ≤ 8
  rect : ∀ r ∈ m, r.length = wd m
  num : ∀ r ∈ m, ∀ x ∈ r, -1000000 ≤ x ∧ x ≤ 1000000
structure Vx (v : List Int) : Prop where
  l1 : 1 ≤ v.length
  l8 : v.length ≤ 8
  num : ∀ x ∈ v, -1000000 ≤ x ∧ x ≤ 1000000
def IsV (d : D) (v : List Int) : Prop := Vx v ∧ seqD d = some (v.map .int)
def IsM (d : D) (m : List (List Int)) : Prop := Mx m ∧ ∃ ds, seqD d = some ds ∧ Paired (fun e (r : List Int) => seqD e = some (r.map .int)) ds m
theorem Mx.row {m : List (List Int)} (h : Mx m) {r : List Int} (hr : r ∈ m) : Vx r := ⟨by rw [h.rect r hr]; exact h.w1, by rw [h.rect r hr]; exact h.w8, h.num r hr⟩
theorem paired_tM : ∀ m : List (List Int), Paired (fun e (r : List Int) => seqD e = some (r.map D.int)) (m.map tV) m
  | [] => .nil
  | _ :: m => .cons rfl (paired_tM m)
theorem paired_lM : ∀ m : List (List Int), Paired (fun e (r : List Int) => seqD e = some (r.map D.int)) (m.map lV) m
  | [] => .nil
  | _ :: m => .cons rfl (paired_lM m)
theorem isM_t {m : List (List Int)} (h : Mx m) : IsM (tM m) m := ⟨h, _, rfl, paired_tM m⟩
theorem isM_l {m : List (List Int)} (h : Mx m) : IsM (lM m) m := ⟨h, _, rfl, paired_lM m⟩
theorem isV_t {v : List Int} (h : Vx v) : IsV (tV v) v := ⟨h, rfl⟩
theorem isV_l {v : List Int} (h : Vx v) : IsV (lV v) v := ⟨h, rfl⟩
def dot (xs ys : List Int) : Int := ((xs.zip ys).map fun u => u.1 * u.2).sum
def flip (m : List (List Int)) : List (List Int) := (List.range (wd m)).map fun j => m.map fun r => r.getD j 0
def mulM (m n : List (List Int)) : List (List Int) := m.map fun r => (flip n).map fun c => dot r c
def ledBy (v : List Int) (m : List (List Int)) : List Int := (List.range (wd m)).map fun j => ((v.zip m).map fun u => u.1 * u.2.getD j 0).sum
def ontoM (m : List (List Int)) (v : List Int) : List Int := m.map fun r => dot r v
def unitM (n : Nat) : List (List Int) := (List.range n).map fun i => (List.range n).map fun j => if j = i then 1 else 0
def manyM (m : List (List Int)) (k : Int) : List (List Int) := m.map fun r => r.map fun x => k * x
def addM (m n : List (List Int)) : List (List Int) := (m.zip n).map fun u => (u.1.zip u.2).map fun w => w.1 + w.2
def besM (m n : List (List Int)) : List (List Int) := (m.zip n).map fun u => u.1 ++ u.2
def gcdL (v : List Int) : Int := v.foldl (fun a x => (Nat.gcd a.natAbs x.natAbs : Nat)) 0
def MulOk (a b : List (List Int)) : Prop := ∀ r ∈ a, ∀ x ∈ r, ∀ q ∈ b, ∀ y ∈ q, IntMulOk x y
theorem getD_of_lt {r : List Int} {j : Nat} (h : j < r.length) : r[j]? = some (r.getD j 0) := by
  rw [List.getD_eq_getElem?_getD, List.getElem?_eq_getElem h]
  rfl
theorem ix_tV {r : List Int} {j : Nat} (h : j < r.length) : ixD (tV r) ((j : Nat) : Int) = some (.int (r.getD j 0)) := by
  refine atI_nat ?_
  rw [List.getElem?_map, getD_of_lt h]
  rfl
theorem ix_lV {r : List Int} {j : Nat} (h : j < r.length) : ixD (lV r) ((j : Nat) : Int) = some (.int (r.getD j 0)) := by
  refine atI_nat ?_
  rw [List.getElem?_map, getD_of_lt h]
  rfl
theorem ix_tM {m : List (List Int)} {j : Nat} (h : j < m.length) : ixD (tM m) ((j : Nat) : Int) = some (tV (m.getD j [])) := by
  refine atI_nat ?_
  rw [List.getElem?_map, List.getElem?_eq_getElem h, List.getD_eq_getElem?_getD, List.getElem?_eq_getElem h]
  rfl
theorem ix_lM {m : List (List Int)} {j : Nat} (h : j < m.length) : ixD (lM m) ((j : Nat) : Int) = some (lV (m.getD j [])) := by
  refine atI_nat ?_
  rw [List.getElem?_map, List.getElem?_eq_getElem h, List.getD_eq_getElem?_getD, List.getElem?_eq_getElem h]
  rfl
theorem ix_tM0 {m : List (List Int)} (h : m ≠ []) : ixD (tM m) (0 : Int) = some (tV (m.headD [])) := by
  cases m with
  | nil => exact absurd rfl h
  | cons r q => exact ix_tM (j := 0) (by simp)
theorem len_tV {r : List Int} : lenD (tV r) = some r.length := by show some (r.map D.int).length = _; rw [List.length_map]
theorem len_tM {m : List (List Int)} : lenD (tM m) = some m.length := by show some (m.map tV).length = _; rw [List.length_map]
theorem len_lV {r : List Int} : lenD (lV r) = some r.length := by show some (r.map D.int).length = _; rw [List.length_map]
theorem len_lM {m : List (List Int)} : lenD (lM m) = some m.length := by show some (m.map lV).length = _; rw [List.length_map]
/-! ### rows of the kernel -/
section
variable {g : Pg}
theorem tM_map {α : Type} {f : α → List Int} {xs : List α} : tM (xs.map f) = .tup (xs.map fun a => .tup ((f a).map D.int)) := by
  show D.tup _ = D.tup _
  rw [List.map_map]
  rfl
theorem tM_map2 {α β : Type} {f : α → β → Int} {ys : α → List β} {xs : List α} : tM (xs.map fun a => (ys a).map (f a)) = .tup (xs.map fun a => .tup ((ys a).map fun b => .int (f a b))) := by
  rw [tM_map]
  show D.tup _ = D.tup _
  congr 2
  funext a
  show D.tup _ = D.tup _
  rw [List.map_map]
  rfl
theorem tV_map {α : Type} {f : α → Int} {xs : List α} : tV (xs.map f) = .tup (xs.map fun a => .int (f a)) := by
  show D.tup _ = D.tup _
  rw [List.map_map]
  rfl
def F_times (d e r : D) : Prop := ∃ xs ys : List Int, ((d = tV xs ∧ e = tV ys) ∨ (d = lV xs ∧ e = lV ys)) ∧ xs.length < 100000 ∧ (∀ x ∈ xs, ∀ y ∈ ys, IntMulOk x y) ∧ r = .int (dot xs ys)
theorem ok_times (W : Wd g) : FN g "times" 1 (P2 F_times) := by
  refine FN.mk2 W.t_times c_times (fun _ _ _ _ _ _ us hl => match us, hl with | [_, _], _ => rfl) (fun d e r h => ?_)
  obtain ⟨xs, ys, hd, hl, ok, rfl⟩ := h
  refine SB.one (ST.ret (EV.sum (ns := (xs.zip ys).map fun u => u.1 * u.2) ?_ W.b.sum))
  rw [List.map_map]
  exact LC.ev (LC.lZ 2 3 (g := fun x y => .int (x * y)) (own := [("left", 2), ("right", 3)]) (by rfl) c_times.nd rfl (EV.nm 0) (EV.nm 1) hd W.b.zip (Nat.le_refl _) OkM.refl hl (fun u hu v hv M => EV.mul (EV.nm 2) (EV.nm 3) (ok u hu v hv)))
theorem ok_flipped (W : Wd g) : FN g "flipped" 1 (P1 fun d r => ∃ m, d = tM m ∧ m ≠ [] ∧ (∀ q ∈ m, q.length = wd m) ∧ m.length < 100000 ∧ wd m < 100000 ∧ r = tM (flip m)) := by
  refine FN.mk1 W.t_flipped c_flipped (fun _ _ _ _ _ _ us hl => match us, hl with | [_], _ => rfl) (fun d r h => ?_)
  obtain ⟨m, rfl, h0, hr, hl, hw, rfl⟩ := h
  have e : tM (flip m) = .tup ((List.range (wd m)).map fun j => .tup (m.map fun q => .int (q.getD j 0))) := by
    unfold flip
    exact tM_map2
  rw [e]
  refine SB.one (ST.ret (EV.tuple (LC.ev (LC.lR 1 (j := ((wd m : Nat) : Int)) (g := fun j => .tup (m.map fun q => .int (q.getD j 0))) (own := [("at", 1)]) (by rfl) c_flipped.nd rfl (EV.len (EV.ix (EV.nm 0) EV.int (ix_tM0 h0)) len_tV W.b.len) W.b.range (Nat.le_refl _) OkM.refl (by omega) (fun i hi M => ?_))) rfl W.b.tuple))
  exact EV.tuple (LC.ev (LC.lM 2 (xs := m) (f := tV) (g := fun q => .int (q.getD i 0)) (own := [("row", 2)]) (by rfl) c_flipped.nd rfl (EV.nm 0) rfl (Nat.le_refl _) OkM.refl hl (fun q hq M => EV.ix (EV.nm 2) (EV.nm 1) (ix_tV (by rw [hr q hq]; omega))))) rfl W.b.tuple
theorem flip_len {m : List (List Int)} {c : List Int} (h : c ∈ flip m) : c.length = m.length := by
  unfold flip at h
  obtain ⟨j, _, rfl⟩ := List.mem_map.mp h
  exact List.length_map _
theorem flip_mem {m : List (List Int)} {c : List Int} (hr : ∀ q ∈ m, q.length = wd m) (h : c ∈ flip m) {y : Int} (hy : y ∈ c) : ∃ q ∈ m, y ∈ q := by
  unfold flip at h
  obtain ⟨j, hj, rfl⟩ := List.mem_map.mp h
  obtain ⟨q, hq, rfl⟩ := List.mem_map.mp hy
  have hlt : j < q.length := by rw [hr q hq]; exact List.mem_range.mp hj
  exact ⟨q, hq, List.mem_of_getElem? (getD_of_lt hlt)⟩
theorem flip_length {m : List (List Int)} : (flip m).length = wd m := by unfold flip; rw [List.length_map, List.length_range]
def F_multiplied (d e r : D) : Prop := ∃ m n, d = tM m ∧ e = tM n ∧ n ≠ [] ∧ (∀ q ∈ n, q.length = wd n) ∧ m.length < 100000 ∧ n.length < 100000 ∧ wd n < 100000 ∧ (∀ q ∈ m, q.length < 100000) ∧ MulOk m n ∧ r = tM (mulM m n)
theorem ok_multiplied (W : Wd g) : FN g "multiplied" 2 (P2 F_multiplied) := by
  refine FN.mk2 W.t_multiplied c_multiplied (fun _ _ _ _ _ _ us hl => match us, hl with | [_, _], _ => rfl) (fun d e r h => ?_)
  obtain ⟨m, n, rfl, rfl, h0, hr, l1, l2, l3, l4, ok, rfl⟩ := h
  have e : tM (mulM m n) = .tup (m.map fun q => .tup ((flip n).map fun c => .int (dot q c))) := by
    unfold mulM
    exact tM_map2 (ys := fun _ => flip n)
  rw [e]
  refine SB.cons (ST.set 2 (EV.c1 (ok_flipped W) (EV.nm 1) ⟨n, rfl, h0, hr, l2, l3, rfl⟩) c_multiplied.nd) (SB.one (ST.ret (EV.tuple (LC.ev (LC.lM 3 (xs := m) (f := tV) (g := fun q => .tup ((flip n).map fun c => .int (dot q c))) (own := [("row", 3)]) (by rfl) c_multiplied.nd rfl (EV.nm 0) rfl (Nat.le_refl _) OkM.refl l1 (fun q hq M => ?_))) rfl W.b.tuple)))
  exact EV.tuple (LC.ev (LC.lM 4 (xs := flip n) (f := tV) (g := fun c => .int (dot q c)) (own := [("column", 4)]) (by rfl) c_multiplied.nd rfl (EV.nm 2) rfl (Nat.le_refl _) OkM.refl (by rw [flip_length]; exact l3) (fun c hc M => EV.c2 (ok_times W) (EV.nm 3) (EV.nm 4) ⟨q, c, .inl ⟨rfl, rfl⟩, l4 q hq, fun x hx y hy => by
    obtain ⟨s, hs, hy'⟩ := flip_mem hr hc hy
    exact ok q hq x hx s hs y hy', rfl⟩))) rfl W.b.tuple
theorem ok_unit (W : Wd g) : FN g "unit" 1 (P1 fun d r => ∃ n : Nat, n < 100000 ∧ d = .int (n : Int) ∧ r = tM (unitM n)) := by
  refine FN.mk1 W.t_unit c_unit (fun _ _ _ _ _ _ us hl => match us, hl with | [_], _ => rfl) (fun d r h => ?_)
  obtain ⟨n, hn, rfl, rfl⟩ := h
  have e : tM (unitM n) = .tup ((List.range n).map fun i => .tup ((List.range n).map fun j => .int (if decide (((j : Nat) : Int) = ((i : Nat) : Int)) then 1 else 0))) := by
    unfold unitM
    simp only [tM, tV, List.map_map]
    congr 2
    funext i
    show D.tup _ = D.tup _
    rw [List.map_map]
    congr 2
    funext j
    show D.int _ = D.int _
    congr 1
    show (if j = i then (1 : Int) else 0) = _
    by_cases h : j = i
    · subst h; simp
    · rw [if_neg h, if_neg]; simp; omega
  rw [e]
  refine SB.one (ST.ret (EV.tuple (LC.ev (LC.lR 1 (j := ((n : Nat) : Int)) (g := fun i => .tup ((List.range n).map fun j => .int (if decide (((j : Nat) : Int) = ((i : Nat) : Int)) then 1 else 0))) (own := [("row", 1)]) (by rfl) c_unit.nd rfl (EV.nm 0) W.b.range (Nat.le_refl _) OkM.refl (by omega) (fun i hi M => ?_))) rfl W.b.tuple))
  exact EV.tuple (LC.ev (LC.lR 2 (j := ((n : Nat) : Int)) (g := fun j => .int (if decide (((j : Nat) : Int) = ((i : Nat) : Int)) then 1 else 0)) (own := [("at", 2)]) (by rfl) c_unit.nd rfl (EV.nm 0) W.b.range (Nat.le_refl _) OkM.refl (by omega) (fun j hj M => EV.intB (EV.cm (EV.nm 2) (EV.nm 1) CS.eqI) W.b.int))) rfl W.b.tuple
theorem isFT_of {x : Int} (h : -1000000 ≤ x ∧ x ≤ 1000000) : isFT (.int x) (-1000000) 1000000 = true := by
  show (decide _ && decide _) = true
  rw [decide_eq_true h.1, decide_eq_true h.2]
  rfl
theorem len_ok {n : Nat} (h1 : 1 ≤ n) (h8 : n ≤ 8) : (decide ((1 : Int) ≤ n) && decide ((n : Int) ≤ 8)) = true := by
  rw [decide_eq_true (by omega), decide_eq_true (by omega)]
  rfl
theorem isVec_of {d : D} {v : List Int} (h : IsV d v) : isVec d = true := by
  unfold isVec
  rw [h.2]
  show ((decide ((1 : Int) ≤ (v.map D.int).length) && decide (((v.map D.int).length : Int) ≤ 8)) && (v.map D.int).all _) = true
  rw [List.length_map, len_ok h.1.l1 h.1.l8, Bool.true_and, List.all_map, List.all_eq_true]
  exact fun x hx => isFT_of (h.1.num x hx)
theorem paired_mem {α β : Type} {R : α → β → Prop} : ∀ {xs : List α} {ys : List β}, Paired R xs ys → ∀ x ∈ xs, ∃ y ∈ ys, R x y
  | _, _, .nil, x, hx => by simp at hx
  | _, _, .cons h r, x, hx => by
    rcases List.mem_cons.mp hx with rfl | hx
    · exact ⟨_, List.mem_cons_self, h⟩
    · obtain ⟨y, h1, h2⟩ := paired_mem r x hx
      exact ⟨y, List.mem_cons_of_mem _ h1, h2⟩
theorem len_seq {d : D} {ds : List D} (h : seqD d = some ds) : lenD d = some ds.length := (seq_of h).2
theorem isMat_of {d : D} {m : List (List Int)} (h : IsM d m) : isMat d = true := by
  obtain ⟨hm, ds, hd, hp⟩ := h
  have hl : ds.length = m.length := hp.length
  have e1 : ds.all isVec = true := List.all_eq_true.mpr fun e he => by
    obtain ⟨r, hr, hs⟩ := paired_mem hp e he
    exact isVec_of ⟨hm.row hr, hs⟩
  have hlen : ∀ e ∈ ds, (lenD e).getD 0 = wd m := fun e he => by
    obtain ⟨r, hr, hs⟩ := paired_mem hp e he
    rw [len_seq hs, List.length_map, hm.rect r hr]
    rfl
  unfold isMat
  rw [hd]
  show ((decide ((1 : Int) ≤ ds.length) && decide ((ds.length : Int) ≤ 8)) && (ds.all isVec && ds.all _)) = true
  rw [hl, len_ok hm.l1 hm.l8, e1, Bool.true_and, Bool.true_and, List.all_eq_true]
  intro e he
  have h0 : (lenD (ds.headD .non)).getD 0 = wd m := by
    cases ds with
    | nil => simp at he
    | cons e0 r0 => exact hlen e0 List.mem_cons_self
  rw [hlen e he, h0]
  exact decide_eq_true rfl
def tupD (e : D) : D := .tup ((seqD e).getD [])
theorem paired_tup : ∀ {ds : List D} {m : List (List Int)}, Paired (fun e (r : List Int) => seqD e = some (r.map D.int)) ds m → ds.map tupD = m.map tV
  | _, _, .nil => rfl
  | _, _, .cons h r => by
    rw [List.map_cons, List.map_cons, paired_tup r]
    show D.tup _ :: _ = _
    rw [h]
    rfl
theorem Mx.ne {m : List (List Int)} (h : Mx m) : m ≠ [] := fun e => by
  have := h.l1
  rw [e] at this
  exact absurd this (by decide)
theorem ok_checked_matrix (W : Wd g) : FN g "checked_matrix" 5 (P1 fun d r => ∃ m, IsM d m ∧ r = tM m) := by
  refine FN.mk1 W.t_checked_matrix c_checked_matrix (fun _ _ _ _ _ _ us hl => match us, hl with | [_], _ => rfl) (fun d r h => ?_)
  obtain ⟨m, hm, rfl⟩ := h
  have hM := isMat_of hm
  obtain ⟨hx, ds, hd, hp⟩ := hm
  have hl : ds.length < 100000 := by
    have := hx.l8
    rw [hp.length]
    omega
  have e : tM m = .tup (ds.map tupD) := by rw [paired_tup hp]
  rw [e]
  refine SB.cons (ST.no (ET.to (ET.not (ET.val (EV.c1 (ok_is_matrix W) (EV.nm 0) (by exact rfl)))) (by rw [hM]; rfl)) SB.nil) (SB.one (ST.ret (EV.tuple (LC.ev (LC.lM 1 (xs := ds) (f := fun e => e) (g := tupD) (own := [("row", 1)]) (by rfl) c_checked_matrix.nd rfl (EV.nm 0) (by rw [hd, List.map_id']) (Nat.le_refl _) OkM.refl hl (fun y hy M => ?_))) rfl W.b.tuple)))
  obtain ⟨r, _, hr⟩ := paired_mem hp y hy
  have e2 : tupD y = .tup (r.map D.int) := by
    show D.tup _ = _
    rw [hr]
    rfl
  show EV _ _ _ _ (.dat (tupD y)) _
  rw [e2]
  exact EV.tuple (EV.nm 1) hr W.b.tuple
theorem Mx.sm {m : List (List Int)} (h : Mx m) : m.length < 100000 ∧ wd m < 100000 ∧ ∀ q ∈ m, q.length < 100000 := by
  have := h.l8
  have := h.w8
  exact ⟨by omega, by omega, fun q hq => by rw [h.rect q hq]; omega⟩
def tgOf : Stmt → Expr
  | .For t _ _ _ _ => t
  | _ => .Constant .none 0 ⟨0, 0, 0, 0⟩
theorem mem_getD {α : Type} {m : List α} {a0 : α} {i : Nat} (hi : i < m.length) : m.getD i a0 ∈ m := by
  rw [List.getD_eq_getElem?_getD, List.getElem?_eq_getElem hi]
  exact List.getElem_mem hi
def optN : Option Nat → D
  | some p => .int (p : Int)
  | none => .non
def leadF (v : List Int) : Option Nat := v.findIdx? fun x => !decide (x = 0)
theorem ok_lead (W : Wd g) : FN g "lead" 1 (P1 fun d r => ∃ v, d = tV v ∧ r = optN (leadF v)) := by
  refine FN.mk1 W.t_lead c_lead (fun _ _ _ _ _ _ us hl => match us, hl with | [_], _ => rfl) (fun d r h => ?_)
  obtain ⟨v, rfl, rfl⟩ := h
  have hlen : (v.map D.int).length = v.length := List.length_map _
  have hat : ∀ i, i < v.length → atN (v.map D.int) i = .dat (.tup [.int (i : Int), .int (v.getD i 0)]) := fun i hi => by
    unfold atN
    rw [List.getD_eq_getElem?_getD, List.getElem?_map, getD_of_lt hi]
    rfl
  have step : ∀ (i : Nat) (hi : i < v.length), EG (mkC g n_lead s_lead 0) (tgOf ((defBody s_lead).getD 0 (.Pass ⟨0, 0, 0, 0⟩))) (atN (v.map D.int) i) [.dat (tV v), .no, .no] [] [.dat (tV v), .dat (.int (i : Int)), .dat (.int (v.getD i 0))] [] := fun i hi => by
    rw [hat i hi]
    exact EG.tup (ds := [.int (i : Int), .int (v.getD i 0)]) (EGs.cons (EG.nm 1 c_lead.nd) (EGs.cons (EG.nm 2 c_lead.nd) EGs.nil))
  cases hf : leadF v with
  | none =>
    have hz : ∀ i, i < v.length → v.getD i 0 = 0 := fun i hi => by
      have := List.findIdx?_eq_none_iff.mp hf (v.getD i 0) (mem_getD hi)
      simpa using this
    refine SB.cons (ST.for (m := v.length) (n := v.length) (E_ := fun _ => [.dat (tV v), .no, .no]) (M_ := fun _ => []) (hlen ▸ EI.enum (EV.nm 0) W.b.enumerate) Fg.refl rfl (Nat.le_refl _) (fun _ _ => True.intro) (fun i hi => ⟨_, _, _, step i hi, ?_, .inl (SB.one (ST.no (ET.to (ET.cm (EV.nm 2) EV.int CS.neI) (by rw [hz i hi]; rfl)) SB.nil))⟩) (.inl ⟨rfl, rfl⟩)) (SB.one (ST.ret EV.non))
    exact Fg.cons (Fg.no (Fg.no Fg.nil))
  | some p =>
    obtain ⟨hp, h1, h2⟩ := List.findIdx?_eq_some_iff_getElem.mp hf
    have hz : ∀ i, i < p → v.getD i 0 = 0 := fun i hi => by
      have := h2 i hi
      rw [List.getD_eq_getElem?_getD, List.getElem?_eq_getElem (by omega)]
      simpa using this
    have hp0 : (!decide (v.getD p 0 = 0)) = true := by
      rw [List.getD_eq_getElem?_getD, List.getElem?_eq_getElem hp]
      exact h1
    refine SB.stop (ST.for (m := p) (n := v.length) (E_ := fun _ => [.dat (tV v), .no, .no]) (M_ := fun _ => []) (hlen ▸ EI.enum (EV.nm 0) W.b.enumerate) Fg.refl rfl (Nat.le_of_lt hp) (fun _ _ => True.intro) (fun i hi => ⟨_, _, _, step i (by omega), ?_, .inl (SB.one (ST.no (ET.to (ET.cm (EV.nm 2) EV.int CS.neI) (by rw [hz i hi]; rfl)) SB.nil))⟩) (.inr ⟨hp, _, _, step p hp, .inl ⟨_, _, SB.one (ST.yes (ET.to (ET.cm (EV.nm 2) EV.int CS.neI) hp0) (SB.one (ST.ret (EV.nm 1)))), rfl⟩⟩))
    exact Fg.cons (Fg.no (Fg.no Fg.nil))
end
end
section
section
variable {g : Pg}
def thenOf : Stmt → List Stmt
  | .If _ y _ _ => y
  | _ => []
def ifOf : Stmt → Expr
  | .If c _ _ _ => c
  | _ => .Constant .none 0 ⟨0, 0, 0, 0⟩
def bodyOf : Stmt → List Stmt
  | .For _ _ b _ _ => b
  | _ => []
theorem least {P : Nat → Prop} : ∀ m, P m → ∃ k, k ≤ m ∧ P k ∧ ∀ j, j < k → ¬ P j := fun m => by
  induction m using Nat.strongRecOn with
  | _ m ih =>
    intro h
    by_cases hk : ∃ j, j < m ∧ P j
    · obtain ⟨j, hj, hp⟩ := hk
      obtain ⟨k, h1, h2, h3⟩ := ih j hj hp
      exact ⟨k, by omega, h2, h3⟩
    · exact ⟨m, Nat.le_refl _, h, fun j hj hp => hk ⟨j, hj, hp⟩⟩
def stp (last : Int) (r : List Int) : Option Int := match leadF r with
  | none => some r.length
  | some p => if (p : Int) ≤ last then none else some p
def lasts (m : List (List Int)) : Nat → Int
  | 0 => -1
  | i + 1 => (stp (lasts m i) (m.getD i [])).getD 0
def echB (m : List (List Int)) : Bool := (List.range m.length).all fun i => (stp (lasts m i) (m.getD i [])).isSome
theorem ok_is_echelon (W : Wd g) : FN g "is_echelon" 2 (P1 fun d r => ∃ m, d = tM m ∧ r = .bl (echB m)) := by
  refine FN.mk1 W.t_is_echelon c_is_echelon (fun _ _ _ _ _ _ us hl => match us, hl with | [_], _ => rfl) (fun d r h => ?_)
  obtain ⟨m, rfl, rfl⟩ := h
  have hlen : (m.map tV).length = m.length := List.length_map _
  have hat : ∀ i, i < m.length → atO (m.map tV) i = .dat (tV (m.getD i [])) := fun i hi => by
    rw [atO_map hi, List.getD_eq_getElem?_getD, List.getElem?_eq_getElem hi]
    rfl
  let E := fun (l : Int) => ([.dat (tM m), .dat (.int l), .no, .no] : List O)
  have good : ∀ (l l' : Int) (rw' : List Int), stp l rw' = some l' → ∃ E2, Fg E2 (E l') ∧ SB (mkC g n_is_echelon s_is_echelon 1) (bodyOf ((defBody s_is_echelon).getD 1 (.Pass ⟨0, 0, 0, 0⟩))) [.dat (tM m), .dat (.int l), .dat (tV rw'), .no] [] (.nx E2 []) := fun l l' rw' hs => by
    cases hl : leadF rw' with
    | none =>
      have e : l' = (rw'.length : Int) := by
        unfold stp at hs
        rw [hl] at hs
        exact (Option.some.inj hs).symm
      subst e
      refine ⟨_, ?_, SB.cons (ST.set 3 (EV.to (EV.c1 (ok_lead W) (EV.nm 2) ⟨rw', rfl, rfl⟩) (by rw [hl])) c_is_echelon.nd) (SB.one (ST.yes (ET.to (ET.isN (d := .non) (EV.nm 3)) rfl) (SB.one (ST.set 1 (EV.len (EV.nm 2) len_tV W.b.len) c_is_echelon.nd))))⟩
      exact Fg.cons (Fg.cons (Fg.no (Fg.no Fg.nil)))
    | some p =>
      unfold stp at hs
      rw [hl] at hs
      have hs' : (if (p : Int) ≤ l then none else some (p : Int)) = some l' := hs
      by_cases hp : (p : Int) ≤ l
      · rw [if_pos hp] at hs'
        cases hs'
      · rw [if_neg hp] at hs'
        cases hs'
        refine ⟨_, ?_, SB.cons (ST.set 3 (EV.to (EV.c1 (ok_lead W) (EV.nm 2) ⟨rw', rfl, rfl⟩) (by rw [hl])) c_is_echelon.nd) (SB.one (ST.no (ET.to (ET.isN (d := .int (p : Int)) (EV.nm 3)) rfl) (SB.one (ST.no (ET.to (ET.cm (EV.nm 3) (EV.nm 1) CS.leI) (decide_eq_false hp)) (SB.one (ST.set 1 (EV.nm 3) c_is_echelon.nd))))))⟩
        exact Fg.cons (Fg.cons (Fg.no (Fg.no Fg.nil)))
  have bad : ∀ (l : Int) (rw' : List Int), stp l rw' = none → SB (mkC g n_is_echelon s_is_echelon 1) (bodyOf ((defBody s_is_echelon).getD 1 (.Pass ⟨0, 0, 0, 0⟩))) [.dat (tM m), .dat (.int l), .dat (tV rw'), .no] [] (.rt (.dat (.bl false)) []) := fun l rw' hs => by
    cases hl : leadF rw' with
    | none =>
      unfold stp at hs
      rw [hl] at hs
      cases hs
    | some p =>
      unfold stp at hs
      rw [hl] at hs
      have hs' : (if (p : Int) ≤ l then none else some (p : Int)) = none := hs
      by_cases hp : (p : Int) ≤ l
      · exact SB.cons (ST.set 3 (EV.to (EV.c1 (ok_lead W) (EV.nm 2) ⟨rw', rfl, rfl⟩) (by rw [hl])) c_is_echelon.nd) (SB.one (ST.no (ET.to (ET.isN (d := .int (p : Int)) (EV.nm 3)) rfl) (SB.one (ST.yes (ET.to (ET.cm (EV.nm 3) (EV.nm 1) CS.leI) (decide_eq_true hp)) (SB.one (ST.ret EV.bl))))))
      · rw [if_neg hp] at hs'
        cases hs'
  have gs : ∀ i, i < m.length → (stp (lasts m i) (m.getD i [])).isSome = true → stp (lasts m i) (m.getD i []) = some (lasts m (i + 1)) := fun i hi hs => by
    obtain ⟨v, hv⟩ := Option.isSome_iff_exists.mp hs
    rw [hv]
    show some v = some ((stp (lasts m i) (m.getD i [])).getD 0)
    rw [hv]
    rfl
  by_cases hex : ∃ i, i < m.length ∧ stp (lasts m i) (m.getD i []) = none
  · obtain ⟨i, hi1, hi2⟩ := hex
    obtain ⟨k, hk1, hk2, hk3⟩ := least (P := fun i => stp (lasts m i) (m.getD i []) = none) i hi2
    have e : echB m = false := by
      rw [← Bool.not_eq_true]
      intro h
      have := List.all_eq_true.mp h k (List.mem_range.mpr (by omega))
      rw [hk2] at this
      cases this
    rw [e]
    refine SB.cons (ST.set 1 (EV.neg EV.int) c_is_echelon.nd) (SB.stop (ST.for (m := k) (n := m.length) (E_ := fun i => E (lasts m i)) (M_ := fun _ => []) (hlen ▸ EI.tup (EV.nm 0)) Fg.refl rfl (by omega) (fun _ _ => True.intro) (fun i hi => ?_) (.inr ⟨by omega, _, _, EG.nm 2 c_is_echelon.nd, .inl ⟨_, _, ?_, rfl⟩⟩)))
    · have hs : (stp (lasts m i) (m.getD i [])).isSome = true := by
        rw [Option.isSome_iff_ne_none]
        exact hk3 i hi
      obtain ⟨E2, h1, h2⟩ := good _ _ _ (gs i (by omega) hs)
      refine ⟨_, _, E2, EG.nm 2 c_is_echelon.nd, h1, .inl ?_⟩
      rw [hat i (by omega)]
      exact h2
    · rw [hat k (by omega)]
      exact bad _ _ hk2
  · have hall : ∀ i, i < m.length → (stp (lasts m i) (m.getD i [])).isSome = true := fun i hi => by
      rw [Option.isSome_iff_ne_none]
      exact fun h => hex ⟨i, hi, h⟩
    have e : echB m = true := List.all_eq_true.mpr fun i hi => hall i (List.mem_range.mp hi)
    rw [e]
    refine SB.cons (ST.set 1 (EV.neg EV.int) c_is_echelon.nd) (SB.cons (ST.for (m := m.length) (n := m.length) (E_ := fun i => E (lasts m i)) (M_ := fun _ => []) (hlen ▸ EI.tup (EV.nm 0)) Fg.refl rfl (Nat.le_refl _) (fun _ _ => True.intro) (fun i hi => ?_) (.inl ⟨rfl, rfl⟩)) (SB.one (ST.ret EV.bl)))
    obtain ⟨E2, h1, h2⟩ := good _ _ _ (gs i hi (hall i hi))
    refine ⟨_, _, E2, EG.nm 2 c_is_echelon.nd, h1, .inl ?_⟩
    rw [hat i hi]
    exact h2
end
/-! ### the kernel -/
section
variable {g : Pg}
def okLen (n : Nat) : Bool := decide ((1 : Int) ≤ n) && decide ((n : Int) ≤ 64)
theorem okLen_iff {n : Nat} : okLen n = true ↔ 1 ≤ n ∧ n ≤ 64 := by
  unfold okLen
  rw [Bool.and_eq_true, decide_eq_true_eq, decide_eq_true_eq]
  omega
def tupLen (e : D) : Nat := (lenD e).getD 0
def itsD (e : D) : List D := (seqD e).getD []
def wideB : D → Bool
  | .tup ds => okLen ds.length && (ds.all (fun e => e.isTup && okLen (tupLen e)) && (ds.all (fun e => decide ((tupLen e : Int) = (tupLen (ds.headD .non) : Int))) && ds.all fun e => (itsD e).all D.isNum))
  | _ => false
theorem tup_len {e : D} (h : e.isTup = true) : lenD e = some (tupLen e) ∧ seqD e = some (itsD e) ∧ (itsD e).length = tupLen e := by
  cases e <;> first | exact ⟨rfl, rfl, rfl⟩ | cases h
theorem ok_is_wide (W : Wd g) : FN g "is_wide" 2 (P1 fun d r => r = .bl (wideB d)) := by
  refine FN.mk1 W.t_is_wide c_is_wide (fun _ _ _ _ _ _ us hl => match us, hl with | [_], _ => rfl) (fun d r h => ?_)
  subst h
  by_cases hd : d.isTup = true
  · obtain ⟨ds, rfl⟩ : ∃ ds, d = .tup ds := by
      cases d <;> first | exact ⟨_, rfl⟩ | cases hd
    have hlt : okLen ds.length = true → ds.length ≤ 64 := fun h => (okLen_iff.mp h).2
    refine SB.guard (k := !okLen ds.length) (ET.to (EW.et (EW.or (k1 := false) (ET.to (ET.not (ET.val (EV.isTuple (EV.nm 0) W.b.isinstance W.b.tuple))) rfl) (fun _ => EW.or1 (ET.not (ET.chain EV.int (EV.len (EV.nm 0) rfl W.b.len) CS.leI (fun _ => EV.int) (fun _ => CS.leI) (fun _ => rfl)))) (fun z => nomatch z))) rfl) (fun z => ?_) (fun z => ?_)
    · refine SB.one (ST.ret (EV.to EV.bl ?_))
      have z' : okLen ds.length = false := by simpa using z
      show _ = O.dat (.bl (okLen ds.length && _))
      rw [z', Bool.false_and]
    · have z' : okLen ds.length = true := by simpa using z
      have hl := hlt z'
      refine SB.guard (M1 := []) (k := !ds.all fun e => e.isTup && okLen (tupLen e)) (ET.to (ET.not (ET.val (EV.all (bs := ds.map fun e => e.isTup && okLen (tupLen e)) ?_ W.b.all))) (by rw [all_map])) (fun y => ?_) (fun y => ?_)
      · rw [List.map_map]
        refine LC.ev (LC.lM 1 (xs := ds) (f := fun e => e) (own := [("row", 1)]) (by rfl) c_is_wide.nd rfl (EV.nm 0) (by rw [List.map_id']; rfl) (Nat.le_refl _) OkM.refl (by omega) (fun e he M => ?_))
        show EV _ _ _ _ (.dat (.bl (e.isTup && okLen (tupLen e)))) _
        cases ht : e.isTup with
        | true => exact EV.to (EV.and (k1 := true) (EV.to (EV.isTuple (EV.nm 1) W.b.isinstance W.b.tuple) (by rw [ht])) (fun _ => EV.and1 (EV.chain (M4 := M) EV.int (EV.len (EV.nm 1) (tup_len ht).1 W.b.len) CS.leI (fun _ => EV.int) (fun _ => CS.leI) (fun _ => rfl))) (fun z => nomatch z)) rfl
        | false => exact EV.to (EV.and (k1 := false) (k2 := true) (EV.to (EV.isTuple (EV.nm 1) W.b.isinstance W.b.tuple) (by rw [ht])) (fun z => nomatch z) (fun _ => rfl)) rfl
      · refine SB.one (ST.ret (EV.to EV.bl ?_))
        have y' : (ds.all fun e => e.isTup && okLen (tupLen e)) = false := by simpa using y
        show _ = O.dat (.bl (okLen ds.length && (ds.all _ && _)))
        rw [y', Bool.false_and, Bool.and_false]
      · have y' : (ds.all fun e => e.isTup && okLen (tupLen e)) = true := by simpa using y
        have hall : ∀ e ∈ ds, e.isTup = true ∧ okLen (tupLen e) = true := fun e he => by
          have := List.all_eq_true.mp y' e he
          rwa [Bool.and_eq_true] at this
        have h0 : ixD (.tup ds) ((0 : Nat) : Int) = some (ds.headD .non) ∧ lenD (ds.headD .non) = some (tupLen (ds.headD .non)) := by
          cases ds with
          | nil => exact absurd z' (by decide)
          | cons e0 r0 => exact ⟨atI_nat rfl, (tup_len (hall e0 List.mem_cons_self).1).1⟩
        refine SB.guard (M1 := []) (k := !ds.all fun e => decide ((tupLen e : Int) = (tupLen (ds.headD .non) : Int))) (ET.to (ET.not (ET.val (EV.all (bs := ds.map fun e => decide ((tupLen e : Int) = (tupLen (ds.headD .non) : Int))) ?_ W.b.all))) (by rw [all_map])) (fun x => ?_) (fun x => ?_)
        · rw [List.map_map]
          refine LC.ev (LC.lM 1 (xs := ds) (f := fun e => e) (own := [("row", 1)]) (by rfl) c_is_wide.nd rfl (EV.nm 0) (by rw [List.map_id']; rfl) (Nat.le_refl _) OkM.refl (by omega) (fun e he M => ?_))
          exact EV.cm (EV.len (EV.nm 1) (tup_len (hall e he).1).1 W.b.len) (EV.len (EV.ix (EV.nm 0) EV.int h0.1) h0.2 W.b.len) CS.eqI
        · refine SB.one (ST.ret (EV.to EV.bl ?_))
          have x' : (ds.all fun e => decide ((tupLen e : Int) = (tupLen (ds.headD .non) : Int))) = false := by simpa using x
          show _ = O.dat (.bl (okLen ds.length && (_ && (ds.all _ && _))))
          rw [x', Bool.false_and, Bool.and_false, Bool.and_false]
        · have x' : (ds.all fun e => decide ((tupLen e : Int) = (tupLen (ds.headD .non) : Int))) = true := by simpa using x
          have hcnt : ∀ (l : List D), (∀ e ∈ l, okLen (tupLen e) = true ∧ e.isTup = true) → (l.flatMap fun u => (itsD u).map fun v => D.bl v.isNum).length ≤ 64 * l.length := fun l => by
            induction l with
            | nil => intro _; simp
            | cons e l ih =>
              intro h
              have h1 := ih fun e he => h e (List.mem_cons_of_mem _ he)
              have h2 := (okLen_iff.mp (h e List.mem_cons_self).1).2
              have h3 := (tup_len (h e List.mem_cons_self).2).2.2
              rw [List.flatMap_cons, List.length_append, List.length_map, List.length_cons]
              omega
          have hc := hcnt ds fun e he => ⟨(hall e he).2, (hall e he).1⟩
          refine SB.one (ST.ret (EV.to (EV.all (bs := ds.flatMap fun e => (itsD e).map D.isNum) ?_ W.b.all) ?_))
          · rw [List.map_flatMap]
            refine EV.to (LC2.ev 1 2 (xs := ds) (f := fun e => e) (ys := itsD) (f' := fun e => e) (dy := fun e => e) (gg := fun _ v => .bl v.isNum) (own := [("row", 1), ("one", 2)]) (by rfl) c_is_wide.nd rfl (by decide) (EV.nm 0) (by rw [List.map_id']; rfl) (Nat.le_refl _) OkM.refl (by omega) (fun e he M => ⟨EV.nm 1, by rw [List.map_id']; exact (tup_len (hall e he).1).2.1⟩) (fun e he v hv M => EV.c1 (ok_is_number W) (EV.nm 2) (by exact rfl))) ?_
            have e3 : (ds.flatMap fun e => (itsD e).map fun v => D.bl v.isNum) = ds.flatMap fun e => ((itsD e).map D.isNum).map D.bl := by
              congr 1
              funext e
              rw [List.map_map]
              rfl
            rw [e3]
          · show _ = O.dat (.bl (okLen ds.length && (ds.all _ && (ds.all _ && ds.all _))))
            rw [z', y', x', Bool.true_and, Bool.true_and, Bool.true_and, List.all_flatMap]
            congr 3
            funext e
            rw [List.all_map]
            rfl
  · have hd' : d.isTup = false := by simpa using hd
    have hw : wideB d = false := by
      cases d <;> first | rfl | cases hd'
    rw [hw]
    exact SB.stop (ST.yes (ET.to (EW.et (EW.or (k1 := true) (k2 := true) (ET.to (ET.not (ET.val (EV.isTuple (EV.nm 0) W.b.isinstance W.b.tuple))) (by rw [hd']; rfl)) (fun z => nomatch z) (fun _ => rfl))) rfl) (SB.one (ST.ret EV.bl)))
end
section
variable {g : Pg}
structure W64 (m : List (List Int)) : Prop where
  l : 1 ≤ m.length ∧ m.length ≤ 64
  w : 1 ≤ wd m ∧ wd m ≤ 64
  rect : ∀ r ∈ m, r.length = wd m
def D.toI : D → Int
  | .int i => i
  | _ => 0
theorem nums_of : ∀ {l : List D}, l.all D.isNum = true → l = (l.map D.toI).map .int
  | [], _ => rfl
  | d :: l, h => by
    rw [List.all_cons, Bool.and_eq_true] at h
    rw [List.map_cons, List.map_cons, ← nums_of h.2]
    congr 1
    cases d <;> first | rfl | cases h.1
theorem wide_tM {d : D} (h : wideB d = true) : ∃ m, d = tM m ∧ W64 m := by
  obtain ⟨ds, rfl⟩ : ∃ ds, d = .tup ds := by
    cases d <;> first | exact ⟨_, rfl⟩ | cases h
  have h' : (okLen ds.length && (ds.all (fun e => e.isTup && okLen (tupLen e)) && (ds.all (fun e => decide ((tupLen e : Int) = (tupLen (ds.headD .non) : Int))) && ds.all fun e => (itsD e).all D.isNum))) = true := h
  rw [Bool.and_eq_true, Bool.and_eq_true, Bool.and_eq_true, List.all_eq_true, List.all_eq_true, List.all_eq_true] at h'
  obtain ⟨h1, h2, h3, h4⟩ := h'
  have hrow : ∀ e ∈ ds, e = tV ((itsD e).map D.toI) ∧ ((itsD e).map D.toI).length = tupLen e ∧ okLen (tupLen e) = true ∧ tupLen e = tupLen (ds.headD .non) := fun e he => by
    have a := h2 e he
    rw [Bool.and_eq_true] at a
    have b := tup_len a.1
    refine ⟨?_, by rw [List.length_map]; exact b.2.2, a.2, by have := of_decide_eq_true (h3 e he); omega⟩
    have c := nums_of (h4 e he)
    cases e with
    | tup es => exact congrArg D.tup c
    | _ => cases a.1
  have e1 : ds = (ds.map fun e => (itsD e).map D.toI).map tV := by
    rw [List.map_map]
    conv => lhs; rw [← List.map_id ds]
    exact List.map_congr_left fun e he => (hrow e he).1
  have hl := okLen_iff.mp h1
  have hw : wd (ds.map fun e => (itsD e).map D.toI) = tupLen (ds.headD .non) ∧ okLen (tupLen (ds.headD .non)) = true := by
    cases ds with
    | nil => exact absurd hl.1 (by simp)
    | cons e0 r0 => exact ⟨(hrow e0 List.mem_cons_self).2.1, (hrow e0 List.mem_cons_self).2.2.1⟩
  refine ⟨ds.map fun e => (itsD e).map D.toI, congrArg D.tup e1, ⟨by rw [List.length_map]; exact hl, by rw [hw.1]; exact okLen_iff.mp hw.2, fun r hr => ?_⟩⟩
  obtain ⟨e, he, rfl⟩ := List.mem_map.mp hr
  rw [hw.1, (hrow e he).2.1, (hrow e he).2.2.2]
theorem tM_wide {m : List (List Int)} (h : W64 m) : wideB (tM m) = true := by
  show (okLen (m.map tV).length && ((m.map tV).all _ && ((m.map tV).all _ && (m.map tV).all _))) = true
  have h0 : tupLen ((m.map tV).headD .non) = wd m := by
    cases m with
    | nil => exact absurd h.l.1 (by simp)
    | cons r q => exact List.length_map _
  have ht : ∀ r : List Int, tupLen (tV r) = r.length := fun r => List.length_map _
  rw [List.length_map, okLen_iff.mpr h.l, h0, List.all_map, List.all_map, List.all_map, Bool.true_and, Bool.and_eq_true, Bool.and_eq_true, List.all_eq_true, List.all_eq_true, List.all_eq_true]
  refine ⟨fun r hr => ?_, fun r hr => ?_, fun r hr => ?_⟩
  · show (true && okLen (tupLen (tV r))) = true
    rw [ht, h.rect r hr, okLen_iff.mpr h.w]
    rfl
  · show decide ((tupLen (tV r) : Int) = _) = true
    rw [ht, h.rect r hr]
    exact decide_eq_true rfl
  · show (r.map D.int).all D.isNum = true
    rw [List.all_map, List.all_eq_true]
    exact fun _ _ => rfl
theorem W64.ne {m : List (List Int)} (h : W64 m) : m ≠ [] := fun e => by
  have := h.l.1
  rw [e] at this
  exact absurd this (by decide)
theorem flat_len {m : List (List Int)} {w : Nat} : (∀ r ∈ m, r.length = w) → m.flatten.length = w * m.length := by
  induction m with
  | nil => intro _; rfl
  | cons r m ih =>
    intro h
    rw [List.flatten_cons, List.length_append, ih fun q hq => h q (List.mem_cons_of_mem _ hq), h r List.mem_cons_self, List.length_cons, Nat.mul_succ]
    omega
theorem W64.flat {m : List (List Int)} (h : W64 m) : m.flatten.length < 100000 := by
  rw [flat_len h.rect]
  have := Nat.mul_le_mul h.w.2 h.l.2
  omega
theorem flat_map (m : List (List Int)) : (m.flatMap fun u => u.map D.int) = m.flatten.map D.int := by
  induction m with
  | nil => rfl
  | cons r m ih => rw [List.flatMap_cons, ih, List.flatten_cons, List.map_append]
theorem ok_numbers_of (W : Wd g) : FN g "numbers_of" 1 (P1 fun d r => ∃ m, W64 m ∧ d = tM m ∧ r = lV m.flatten) := by
  refine FN.mk1 W.t_numbers_of c_numbers_of (fun _ _ _ _ _ _ us hl => match us, hl with | [_], _ => rfl) (fun d r h => ?_)
  obtain ⟨m, hm, rfl, rfl⟩ := h
  have hf := hm.flat
  refine SB.one (ST.ret (EV.to (LC2.ev 1 2 (xs := m) (f := tV) (ys := fun u => u) (f' := D.int) (dy := tV) (gg := fun _ v => .int v) (own := [("row", 1), ("one", 2)]) (by rfl) c_numbers_of.nd rfl (by decide) (EV.nm 0) rfl (Nat.le_refl _) OkM.refl (by rw [flat_map, List.length_map]; exact hf) (fun e he M => ⟨EV.nm 1, rfl⟩) (fun e he v hv M => EV.nm 2)) ?_))
  rw [flat_map]
def partB (k x : Int) : Bool := if k = 0 then decide (x = 0) else decide (x % k = 0)
theorem ok_divides_all (W : Wd g) : FN g "divides_all" 2 (P2 fun d e r => ∃ k m, 0 ≤ k ∧ d = .int k ∧ W64 m ∧ e = tM m ∧ r = .bl (m.flatten.all (partB k))) := by
  refine FN.mk2 W.t_divides_all c_divides_all (fun _ _ _ _ _ _ us hl => match us, hl with | [_, _], _ => rfl) (fun d e r h => ?_)
  obtain ⟨k, m, hk, rfl, hm, rfl, rfl⟩ := h
  refine SB.one (ST.ret (EV.to (EV.all (bs := m.flatten.map (partB k)) ?_ W.b.all) (by rw [all_map])))
  rw [List.map_map]
  refine LC.ev (LC.lM 2 (xs := m.flatten) (f := D.int) (own := [("one", 2)]) (by rfl) c_divides_all.nd rfl (EV.c1 (ok_numbers_of W) (EV.nm 1) ⟨m, hm, rfl, rfl⟩) rfl (Nat.le_refl _) OkM.refl hm.flat (fun x hx M => ?_))
  show EV _ _ _ _ (.dat (.bl (partB k x))) _
  refine EV.ite (k := decide (k = 0)) (ET.cm (EV.nm 0) EV.int CS.eqI) (fun z => ?_) (fun z => ?_)
  · have z' : k = 0 := of_decide_eq_true z
    have e : partB k x = decide (x = 0) := if_pos z'
    rw [e]
    exact EV.cm (EV.nm 2) EV.int CS.eqI
  · have z' : k ≠ 0 := of_decide_eq_false z
    have e : partB k x = decide (x % k = 0) := if_neg z'
    rw [e]
    exact EV.cm (EV.mod (EV.nm 2) (EV.nm 0) (by omega)) EV.int CS.eqI
end
section
variable {g : Pg}
def prodB (a b c : List (List Int)) : Bool := decide ((wd a : Int) = (b.length : Int)) && decide (mulM a b = c)
theorem ok_is_product (W : Wd g) : FN g "is_product" 3 (P3 fun d e f r => ∃ a b c, W64 a ∧ W64 b ∧ MulOk a b ∧ d = tM a ∧ e = tM b ∧ f = tM c ∧ r = .bl (prodB a b c)) := by
  refine FN.mk3 W.t_is_product c_is_product (fun _ _ _ _ _ _ us hl => match us, hl with | [_, _, _], _ => rfl) (fun d e f r h => ?_)
  obtain ⟨a, b, c, ha, hb, ok, rfl, rfl, rfl, rfl⟩ := h
  have a1 := ha.l.2
  have b1 := hb.l.2
  have b2 := hb.w.2
  have a2 := ha.w.2
  exact SB.one (ST.ret (EV.and (EV.cm (EV.len (EV.ix (EV.nm 0) EV.int (ix_tM0 ha.ne)) len_tV W.b.len) (EV.len (EV.nm 1) len_tM W.b.len) CS.eqI) (fun _ => EV.and1 (EV.cm (EV.c2 (ok_multiplied W) (EV.nm 0) (EV.nm 1) ⟨a, b, rfl, rfl, hb.ne, hb.rect, by omega, by omega, by omega, fun q hq => by rw [ha.rect q hq]; omega, ok, rfl⟩) (EV.nm 2) CS.eqM)) (fun _ => rfl)))
/-! ### claims -/
def ixI (ds : List D) (i : Nat) : D := ds.getD i .non
def geB (d : D) : Bool := d.isNum && decide (0 ≤ d.toI)
def formB (w : Str) (ds : List D) : Bool :=
  if inS w ["divides", "not divides"] = true then geB (ixI ds 1) && wideB (ixI ds 2)
  else if inS w ["least", "less"] = true then wideB (ixI ds 1) && (ixI ds 2).isNum
  else (ds.drop 1).all wideB
def claimB : D → Bool
  | .tup (.str w :: ds) => decide (1 ≤ ds.length) && (decide (tab_SIZES w = some ((ds.length : Int) + 1)) && formB w (.str w :: ds))
  | _ => false
theorem ok_is_claim (W : Wd g) : FN g "is_claim" 3 (P1 fun d r => (∀ ds, d = .tup ds → ds.length < 100000) ∧ r = .bl (claimB d)) := by
  refine FN.mk1 W.t_is_claim c_is_claim (fun _ _ _ _ _ _ us hl => match us, hl with | [_], _ => rfl) (fun d r h => ?_)
  obtain ⟨hlen, rfl⟩ := h
  by_cases hd : d.isTup = true
  · obtain ⟨ds, rfl⟩ : ∃ ds, d = .tup ds := by
      cases d <;> first | exact ⟨_, rfl⟩ | cases hd
    have hl := hlen ds rfl
    clear hlen
    have short : ds.length < 2 → claimB (.tup ds) = false → SB (mkC g n_is_claim s_is_claim 2) (defBody s_is_claim) (pad n_is_claim [.dat (.tup ds)]) [] (.rt (.dat (.bl (claimB (.tup ds)))) []) := fun h2 hc => by
      rw [hc]
      exact SB.stop (ST.yes (ET.to (EW.et (EW.or (k1 := false) (ET.to (ET.not (ET.val (EV.isTuple (EV.nm 0) W.b.isinstance W.b.tuple))) rfl) (fun _ => EW.or (k1 := true) (k2 := true) (ET.to (ET.cm (EV.len (EV.nm 0) rfl W.b.len) EV.int CS.ltI) (decide_eq_true (by omega))) (fun z => nomatch z) (fun _ => rfl)) (fun z => nomatch z))) rfl) (SB.one (ST.ret EV.bl)))
    cases ds with
    | nil => exact short (by decide) rfl
    | cons x ds =>
      cases ds with
      | nil => exact short (by simp) (by cases x <;> rfl)
      | cons y ds =>
        have h0 : ixD (.tup (x :: y :: ds)) ((0 : Nat) : Int) = some x := atI_nat rfl
        have h1 : ixD (.tup (x :: y :: ds)) ((1 : Nat) : Int) = some y := atI_nat rfl
        have hnot : ¬ ((((x :: y :: ds).length : Nat) : Int) < 2) := by simp; omega
        have first : ∀ {k : Bool}, k = !x.isStr → ET (mkC g n_is_claim s_is_claim 2) (ifOf ((defBody s_is_claim).getD 0 (.Pass ⟨0, 0, 0, 0⟩))) (pad n_is_claim [.dat (.tup (x :: y :: ds))]) [] k [] := fun {k} hk => by
          subst hk
          exact ET.to (EW.et (EW.or (k1 := false) (ET.to (ET.not (ET.val (EV.isTuple (EV.nm 0) W.b.isinstance W.b.tuple))) rfl) (fun _ => EW.or (k1 := false) (ET.to (ET.cm (EV.len (EV.nm 0) rfl W.b.len) EV.int CS.ltI) (decide_eq_false hnot)) (fun _ => EW.or1 (ET.not (ET.val (EV.isStr (EV.ix (EV.nm 0) EV.int h0) W.b.isinstance W.b.str)))) (fun z => nomatch z)) (fun z => nomatch z))) rfl
        by_cases hx : x.isStr = true
        · obtain ⟨w, rfl⟩ : ∃ w, x = .str w := by
            cases x <;> first | exact ⟨_, rfl⟩ | cases hx
          have hw : (1 ≤ (y :: ds).length) := by simp
          have hcl : claimB (.tup (.str w :: y :: ds)) = (decide (tab_SIZES w = some (((y :: ds).length : Int) + 1)) && formB w (.str w :: y :: ds)) := by
            show (decide (1 ≤ (y :: ds).length) && _) = _
            rw [decide_eq_true hw]
            rfl
          rw [hcl]
          refine SB.cons (ST.no (first rfl) SB.nil) ?_
          by_cases ht : tab_SIZES w = some (((y :: ds).length : Int) + 1)
          · rw [decide_eq_true ht, Bool.true_and]
            refine SB.cons (ST.no (ET.to (ET.cm (o1 := .dat (.int (((y :: ds).length : Int) + 1))) (EV.to (EV.dget W.g_SIZES (EV.ix (EV.nm 0) EV.int h0)) (by rw [ht]; rfl)) (EV.len (EV.nm 0) rfl W.b.len) CS.neI) (by simp)) SB.nil) ?_
            by_cases hv : inS w ["divides", "not divides"] = true
            · have hlen3 : tab_SIZES w = some 3 := by
                unfold inS at hv
                simp at hv
                rcases hv with rfl | rfl <;> rfl
              obtain ⟨z, rfl⟩ : ∃ z, ds = [z] := by
                rw [hlen3] at ht
                have := Option.some.inj ht
                cases ds with
                | nil => simp at this
                | cons z q =>
                  cases q with
                  | nil => exact ⟨z, rfl⟩
                  | cons _ _ => simp at this; omega
              have h2 : ixD (.tup (.str w :: y :: [z])) ((2 : Nat) : Int) = some z := atI_nat rfl
              have hf : formB w [.str w, y, z] = (geB y && wideB z) := if_pos hv
              rw [hf]
              refine SB.stop (ST.yes (ET.to (ET.cm (EV.ix (EV.nm 0) EV.int h0) (EV.tup (ds := (["divides", "not divides"] : List Str).map D.str) (EA.cons EV.str (EA.cons EV.str EA.nil)) (by decide)) CS.inSt) hv) (SB.one (ST.ret ?_)))
              cases hy : y.isNum with
              | true =>
                obtain ⟨i, rfl⟩ : ∃ i, y = .int i := by
                  cases y <;> first | exact ⟨_, rfl⟩ | cases hy
                exact EV.to (EV.and (k1 := true) (EV.to (EV.c1 (ok_is_number W) (EV.ix (EV.nm 0) EV.int h1) (by exact rfl)) rfl) (fun _ => EV.and (EV.cm (EV.ix (EV.nm 0) EV.int h1) EV.int CS.geI) (fun _ => EV.and1 (EV.c1 (ok_is_wide W) (EV.ix (EV.nm 0) EV.int h2) (by exact rfl))) (fun _ => rfl)) (fun z => nomatch z)) (by show _ = O.dat (.bl ((true && _) && _)); rw [Bool.true_and, Bool.true_and]; rfl)
              | false => exact EV.to (EV.and (k1 := false) (k2 := true) (EV.to (EV.c1 (ok_is_number W) (EV.ix (EV.nm 0) EV.int h1) (by exact rfl)) (by rw [hy])) (fun z => nomatch z) (fun _ => rfl)) (by unfold geB; rw [hy]; rfl)
            · have hv' : inS w ["divides", "not divides"] = false := by simpa using hv
              refine SB.cons (ST.no (ET.to (ET.cm (EV.ix (EV.nm 0) EV.int h0) (EV.tup (ds := (["divides", "not divides"] : List Str).map D.str) (EA.cons EV.str (EA.cons EV.str EA.nil)) (by decide)) CS.inSt) hv') SB.nil) ?_
              by_cases hu : inS w ["least", "less"] = true
              · have hlen3 : tab_SIZES w = some 3 := by
                  unfold inS at hu
                  simp at hu
                  rcases hu with rfl | rfl <;> rfl
                obtain ⟨z, rfl⟩ : ∃ z, ds = [z] := by
                  rw [hlen3] at ht
                  have := Option.some.inj ht
                  cases ds with
                  | nil => simp at this
                  | cons z q =>
                    cases q with
                    | nil => exact ⟨z, rfl⟩
                    | cons _ _ => simp at this; omega
                have h2 : ixD (.tup (.str w :: y :: [z])) ((2 : Nat) : Int) = some z := atI_nat rfl
                have hf : formB w [.str w, y, z] = (wideB y && z.isNum) := by
                  show (if _ then _ else if _ then _ else _) = _
                  rw [if_neg hv, if_pos hu]
                  rfl
                rw [hf]
                exact SB.stop (ST.yes (ET.to (ET.cm (EV.ix (EV.nm 0) EV.int h0) (EV.tup (ds := (["least", "less"] : List Str).map D.str) (EA.cons EV.str (EA.cons EV.str EA.nil)) (by decide)) CS.inSt) hu) (SB.one (ST.ret (EV.and (EV.c1 (ok_is_wide W) (EV.ix (EV.nm 0) EV.int h1) (by exact rfl)) (fun _ => EV.and1 (EV.c1 (ok_is_number W) (EV.ix (EV.nm 0) EV.int h2) (by exact rfl))) (fun _ => rfl)))))
              · have hu' : inS w ["least", "less"] = false := by simpa using hu
                refine SB.cons (ST.no (ET.to (ET.cm (EV.ix (EV.nm 0) EV.int h0) (EV.tup (ds := (["least", "less"] : List Str).map D.str) (EA.cons EV.str (EA.cons EV.str EA.nil)) (by decide)) CS.inSt) hu') SB.nil) ?_
                have hf : formB w (.str w :: y :: ds) = (y :: ds).all wideB := by
                  show (if _ then _ else if _ then _ else _) = _
                  rw [if_neg hv, if_neg hu]
                  rfl
                have hcut : cutD (.str w :: y :: ds) (some 1) none = y :: ds := by
                  unfold cutD
                  have e1 : HT.sIx (D.str w :: y :: ds).length 0 (some ((1 : Nat) : Int)) = 1 := by
                    rw [HT.sIx_nat]
                    simp
                  rw [show (some (1 : Int)) = some ((1 : Nat) : Int) from rfl, e1]
                  show (y :: ds).take ((y :: ds).length + 1 - 1) = _
                  rw [Nat.add_sub_cancel, List.take_length]
                rw [hf]
                refine SB.one (ST.ret (EV.to (EV.all (bs := (y :: ds).map wideB) ?_ W.b.all) (by rw [all_map])))
                rw [List.map_map]
                exact LC.ev (LC.lM 1 (xs := y :: ds) (f := fun e => e) (own := [("table", 1)]) (by rfl) c_is_claim.nd rfl (EV.slT (EV.nm 0) (EO.some EV.int) EO.none) (by rw [hcut, List.map_id']; rfl) (Nat.le_refl _) OkM.refl (by simp at hl ⊢; omega) (fun e he M => EV.c1 (ok_is_wide W) (EV.nm 1) (by exact rfl)))
          · rw [decide_eq_false ht, Bool.false_and]
            cases hk : tab_SIZES w with
            | none => exact SB.stop (ST.yes (ET.cm (o1 := .dat .non) (EV.to (EV.dget W.g_SIZES (EV.ix (EV.nm 0) EV.int h0)) (by rw [hk]; rfl)) (EV.len (EV.nm 0) rfl W.b.len) CS.neNI) (SB.one (ST.ret EV.bl)))
            | some k =>
              refine SB.stop (ST.yes (ET.to (ET.cm (o1 := .dat (.int k)) (EV.to (EV.dget W.g_SIZES (EV.ix (EV.nm 0) EV.int h0)) (by rw [hk]; rfl)) (EV.len (EV.nm 0) rfl W.b.len) CS.neI) ?_) (SB.one (ST.ret EV.bl)))
              rw [hk] at ht
              simp at ht ⊢
              omega
        · have hx' : x.isStr = false := by simpa using hx
          have hc : claimB (.tup (x :: y :: ds)) = false := by
            cases x <;> first | rfl | cases hx'
          rw [hc]
          exact SB.stop (ST.yes (first (by rw [hx']; rfl)) (SB.one (ST.ret EV.bl)))
  · have hd' : d.isTup = false := by simpa using hd
    have hw : claimB d = false := by
      cases d <;> first | rfl | cases hd'
    rw [hw]
    exact SB.stop (ST.yes (ET.to (EW.et (EW.or (k1 := true) (k2 := true) (ET.to (ET.not (ET.val (EV.isTuple (EV.nm 0) W.b.isinstance W.b.tuple))) (by rw [hd']; rfl)) (fun z => nomatch z) (fun _ => rfl))) rfl) (SB.one (ST.ret EV.bl)))
end
section
variable {g : Pg}
/-- claims of good form, and whether they hold -/
inductive CL : D → Bool → Prop
  | product {a b c : List (List Int)} (ha : W64 a) (hb : W64 b) (hc : W64 c) : CL (.tup [.str "product", tM a, tM b, tM c]) (prodB a b c)
  | same {a b : List (List Int)} (ha : W64 a) (hb : W64 b) : CL (.tup [.str "same", tM a, tM b]) (decide (a = b))
  | divides {k : Int} {m : List (List Int)} (hk : 0 ≤ k) (hm : W64 m) : CL (.tup [.str "divides", .int k, tM m]) (m.flatten.all (partB k))
  | notdiv {k : Int} {m : List (List Int)} (hk : 0 ≤ k) (hm : W64 m) : CL (.tup [.str "not divides", .int k, tM m]) (!m.flatten.all (partB k))
  | least {k : Int} {m : List (List Int)} (hm : W64 m) : CL (.tup [.str "least", tM m, .int k]) (m.flatten.all fun x => decide (k ≤ x))
  | less {k : Int} {m : List (List Int)} (hm : W64 m) : CL (.tup [.str "less", tM m, .int k]) (m.flatten.all fun x => decide (x < k))
  | echelon {m : List (List Int)} (hm : W64 m) : CL (.tup [.str "echelon", tM m]) (echB m)
theorem tM_inj {a b : List (List Int)} (h : tM a = tM b) : a = b := by
  have h1 : a.map tV = b.map tV := D.tup.inj h
  refine List.map_inj_right ?_ |>.mp h1
  intro x y hxy
  refine List.map_inj_right ?_ |>.mp (D.tup.inj hxy)
  intro i j hij
  exact D.int.inj hij
theorem CL.inj {d : D} {b b' : Bool} (h : CL d b) (h' : CL d b') : b = b' := by
  generalize hd : d = d' at h'
  cases h <;> cases h' <;> simp at hd <;> first
    | exact absurd hd.1 (by decide)
    | (obtain ⟨h1, h2, h3⟩ := hd; rw [tM_inj (congrArg D.tup h1), tM_inj (congrArg D.tup h2), tM_inj (congrArg D.tup h3)])
    | (obtain ⟨h1, h2⟩ := hd; first | rw [tM_inj (congrArg D.tup h1), tM_inj (congrArg D.tup h2)] | rw [h1, tM_inj (congrArg D.tup h2)] | rw [tM_inj (congrArg D.tup h1), h2])
    | rw [tM_inj (congrArg D.tup hd)]
theorem CL.claim {d : D} {b : Bool} (h : CL d b) : claimB d = true := by
  have w : ∀ {m : List (List Int)}, W64 m → wideB (tM m) = true := fun h => tM_wide h
  cases h with
  | product ha hb hc =>
    show (true && (true && (wideB (tM _) && (wideB (tM _) && (wideB (tM _) && true))))) = true
    rw [w ha, w hb, w hc]
    rfl
  | same ha hb =>
    show (true && (true && (wideB (tM _) && (wideB (tM _) && true)))) = true
    rw [w ha, w hb]
    rfl
  | @divides k m hk hm =>
    show (true && (true && ((true && decide (0 ≤ k)) && wideB (tM m)))) = true
    rw [w hm, decide_eq_true hk]
    rfl
  | @notdiv k m hk hm =>
    show (true && (true && ((true && decide (0 ≤ k)) && wideB (tM m)))) = true
    rw [w hm, decide_eq_true hk]
    rfl
  | least hm =>
    show (true && (true && (wideB (tM _) && true))) = true
    rw [w hm]
    rfl
  | less hm =>
    show (true && (true && (wideB (tM _) && true))) = true
    rw [w hm]
    rfl
  | echelon hm =>
    show (true && (true && (wideB (tM _) && true))) = true
    rw [w hm]
    rfl
theorem claim_cl {d : D} (h : claimB d = true) : ∃ b, CL d b := by
  obtain ⟨w, ds, rfl⟩ : ∃ w ds, d = .tup (.str w :: ds) := by
    cases d with
    | tup l =>
      cases l with
      | nil => cases h
      | cons x l => cases x <;> first | exact ⟨_, _, rfl⟩ | cases h
    | _ => cases h
  have h' : (decide (1 ≤ ds.length) && (decide (tab_SIZES w = some ((ds.length : Int) + 1)) && formB w (.str w :: ds))) = true := h
  rw [Bool.and_eq_true, Bool.and_eq_true, decide_eq_true_eq, decide_eq_true_eq] at h'
  obtain ⟨h1, h2, h3⟩ := h'
  have l1 : ∀ {x : D}, ds.length = 1 → ∃ x, ds = [x] := fun {_} h => by
    match ds, h with
    | [x], _ => exact ⟨x, rfl⟩
  have l2 : ds.length = 2 → ∃ x y, ds = [x, y] := fun h => by
    match ds, h with
    | [x, y], _ => exact ⟨x, y, rfl⟩
  have l3 : ds.length = 3 → ∃ x y z, ds = [x, y, z] := fun h => by
    match ds, h with
    | [x, y, z], _ => exact ⟨x, y, z, rfl⟩
  have num : ∀ {x : D}, x.isNum = true → ∃ i, x = .int i := fun {x} h => by
    cases x <;> first | exact ⟨_, rfl⟩ | cases h
  by_cases e1 : w = "product"
  · subst e1
    have h4 : (4 : Int) = ds.length + 1 := Option.some.inj h2
    obtain ⟨x, y, z, rfl⟩ := l3 (by omega)
    have h5 : (wideB x && (wideB y && (wideB z && true))) = true := h3
    simp only [Bool.and_eq_true] at h5
    obtain ⟨a, rfl, ha⟩ := wide_tM h5.1
    obtain ⟨b, rfl, hb⟩ := wide_tM h5.2.1
    obtain ⟨c, rfl, hc⟩ := wide_tM h5.2.2.1
    exact ⟨_, .product ha hb hc⟩
  by_cases e2 : w = "same"
  · subst e2
    have h4 : (3 : Int) = ds.length + 1 := Option.some.inj h2
    obtain ⟨x, y, rfl⟩ := l2 (by omega)
    have h5 : (wideB x && (wideB y && true)) = true := h3
    simp only [Bool.and_eq_true] at h5
    obtain ⟨a, rfl, ha⟩ := wide_tM h5.1
    obtain ⟨b, rfl, hb⟩ := wide_tM h5.2.1
    exact ⟨_, .same ha hb⟩
  by_cases e3 : w = "divides"
  · subst e3
    have h4 : (3 : Int) = ds.length + 1 := Option.some.inj h2
    obtain ⟨x, y, rfl⟩ := l2 (by omega)
    have h5 : ((x.isNum && decide (0 ≤ x.toI)) && wideB y) = true := h3
    rw [Bool.and_eq_true, Bool.and_eq_true, decide_eq_true_eq] at h5
    obtain ⟨i, rfl⟩ := num h5.1.1
    obtain ⟨b, rfl, hb⟩ := wide_tM h5.2
    exact ⟨_, .divides h5.1.2 hb⟩
  by_cases e4 : w = "not divides"
  · subst e4
    have h4 : (3 : Int) = ds.length + 1 := Option.some.inj h2
    obtain ⟨x, y, rfl⟩ := l2 (by omega)
    have h5 : ((x.isNum && decide (0 ≤ x.toI)) && wideB y) = true := h3
    rw [Bool.and_eq_true, Bool.and_eq_true, decide_eq_true_eq] at h5
    obtain ⟨i, rfl⟩ := num h5.1.1
    obtain ⟨b, rfl, hb⟩ := wide_tM h5.2
    exact ⟨_, .notdiv h5.1.2 hb⟩
  by_cases e5 : w = "least"
  · subst e5
    have h4 : (3 : Int) = ds.length + 1 := Option.some.inj h2
    obtain ⟨x, y, rfl⟩ := l2 (by omega)
    have h5 : (wideB x && y.isNum) = true := h3
    rw [Bool.and_eq_true] at h5
    obtain ⟨i, rfl⟩ := num h5.2
    obtain ⟨b, rfl, hb⟩ := wide_tM h5.1
    exact ⟨_, .least hb⟩
  by_cases e6 : w = "less"
  · subst e6
    have h4 : (3 : Int) = ds.length + 1 := Option.some.inj h2
    obtain ⟨x, y, rfl⟩ := l2 (by omega)
    have h5 : (wideB x && y.isNum) = true := h3
    rw [Bool.and_eq_true] at h5
    obtain ⟨i, rfl⟩ := num h5.2
    obtain ⟨b, rfl, hb⟩ := wide_tM h5.1
    exact ⟨_, .less hb⟩
  by_cases e7 : w = "echelon"
  · subst e7
    have h4 : (2 : Int) = ds.length + 1 := Option.some.inj h2
    obtain ⟨x, rfl⟩ := l1 (x := .non) (by omega)
    have h5 : (wideB x && true) = true := h3
    rw [Bool.and_eq_true] at h5
    obtain ⟨b, rfl, hb⟩ := wide_tM h5.1
    exact ⟨_, .echelon hb⟩
  · unfold tab_SIZES at h2
    rw [if_neg e1, if_neg e2, if_neg e3, if_neg e4, if_neg e5, if_neg e6, if_neg e7] at h2
    cases h2
def Mild (d : D) : Prop := (∀ ds, d = .tup ds → ds.length < 100000) ∧ (claimB d = true → ∀ a b c, d = .tup [.str "product", tM a, tM b, tM c] → MulOk a b)
theorem ok_is_so (W : Wd g) : FN g "is_so" 4 (P1 fun d r => ∃ b, CL d b ∧ Mild d ∧ r = .bl b) := by
  refine FN.mk1 W.t_is_so c_is_so (fun _ _ _ _ _ _ us hl => match us, hl with | [_], _ => rfl) (fun d r h => ?_)
  obtain ⟨b, hc, hm, rfl⟩ := h
  cases hc with
  | @product a b c ha hb hc =>
    have x0 : ixD (.tup [.str "product", tM a, tM b, tM c]) ((0 : Nat) : Int) = some (.str "product") := atI_nat rfl
    have x1 : ixD (.tup [.str "product", tM a, tM b, tM c]) ((1 : Nat) : Int) = some (tM a) := atI_nat rfl
    have x2 : ixD (.tup [.str "product", tM a, tM b, tM c]) ((2 : Nat) : Int) = some (tM b) := atI_nat rfl
    have x3 : ixD (.tup [.str "product", tM a, tM b, tM c]) ((3 : Nat) : Int) = some (tM c) := atI_nat rfl
    exact SB.cons (ST.set 1 (EV.ix (EV.nm 0) EV.int x0) c_is_so.nd) (SB.stop (ST.yes (ET.to (ET.cm (EV.nm 1) EV.str CS.eqS) rfl) (SB.one (ST.ret (EV.c3 (ok_is_product W) (EV.ix (EV.nm 0) EV.int x1) (EV.ix (EV.nm 0) EV.int x2) (EV.ix (EV.nm 0) EV.int x3) ⟨_, _, _, ha, hb, hm.2 (CL.product ha hb hc).claim _ _ _ rfl, rfl, rfl, rfl, rfl⟩)))))
  | @same a b ha hb =>
    have x0 : ixD (.tup [.str "same", tM a, tM b]) ((0 : Nat) : Int) = some (.str "same") := atI_nat rfl
    have x1 : ixD (.tup [.str "same", tM a, tM b]) ((1 : Nat) : Int) = some (tM a) := atI_nat rfl
    have x2 : ixD (.tup [.str "same", tM a, tM b]) ((2 : Nat) : Int) = some (tM b) := atI_nat rfl
    exact SB.cons (ST.set 1 (EV.ix (EV.nm 0) EV.int x0) c_is_so.nd) (SB.cons (ST.no (ET.to (ET.cm (EV.nm 1) EV.str CS.eqS) (by decide)) SB.nil) (SB.stop (ST.yes (ET.to (ET.cm (EV.nm 1) EV.str CS.eqS) rfl) (SB.one (ST.ret (EV.cm (EV.ix (EV.nm 0) EV.int x1) (EV.ix (EV.nm 0) EV.int x2) CS.eqM))))))
  | @divides k m hk hw =>
    have x0 : ixD (.tup [.str "divides", .int k, tM m]) ((0 : Nat) : Int) = some (.str "divides") := atI_nat rfl
    have x1 : ixD (.tup [.str "divides", .int k, tM m]) ((1 : Nat) : Int) = some (.int k) := atI_nat rfl
    have x2 : ixD (.tup [.str "divides", .int k, tM m]) ((2 : Nat) : Int) = some (tM m) := atI_nat rfl
    exact SB.cons (ST.set 1 (EV.ix (EV.nm 0) EV.int x0) c_is_so.nd) (SB.cons (ST.no (ET.to (ET.cm (EV.nm 1) EV.str CS.eqS) (by decide)) SB.nil) (SB.cons (ST.no (ET.to (ET.cm (EV.nm 1) EV.str CS.eqS) (by decide)) SB.nil) (SB.stop (ST.yes (ET.to (ET.cm (EV.nm 1) EV.str CS.eqS) rfl) (SB.one (ST.ret (EV.c2 (ok_divides_all W) (EV.ix (EV.nm 0) EV.int x1) (EV.ix (EV.nm 0) EV.int x2) ⟨_, _, hk, rfl, hw, rfl, rfl⟩)))))))
  | @notdiv k m hk hw =>
    have x0 : ixD (.tup [.str "not divides", .int k, tM m]) ((0 : Nat) : Int) = some (.str "not divides") := atI_nat rfl
    have x1 : ixD (.tup [.str "not divides", .int k, tM m]) ((1 : Nat) : Int) = some (.int k) := atI_nat rfl
    have x2 : ixD (.tup [.str "not divides", .int k, tM m]) ((2 : Nat) : Int) = some (tM m) := atI_nat rfl
    exact SB.cons (ST.set 1 (EV.ix (EV.nm 0) EV.int x0) c_is_so.nd) (SB.cons (ST.no (ET.to (ET.cm (EV.nm 1) EV.str CS.eqS) (by decide)) SB.nil) (SB.cons (ST.no (ET.to (ET.cm (EV.nm 1) EV.str CS.eqS) (by decide)) SB.nil) (SB.cons (ST.no (ET.to (ET.cm (EV.nm 1) EV.str CS.eqS) (by decide)) SB.nil) (SB.stop (ST.yes (ET.to (ET.cm (EV.nm 1) EV.str CS.eqS) rfl) (SB.one (ST.ret (EV.not (EV.c2 (ok_divides_all W) (EV.ix (EV.nm 0) EV.int x1) (EV.ix (EV.nm 0) EV.int x2) ⟨_, _, hk, rfl, hw, rfl, rfl⟩)))))))))
  | @least k m hw =>
    have x0 : ixD (.tup [.str "least", tM m, .int k]) ((0 : Nat) : Int) = some (.str "least") := atI_nat rfl
    have x1 : ixD (.tup [.str "least", tM m, .int k]) ((1 : Nat) : Int) = some (tM m) := atI_nat rfl
    have x2 : ixD (.tup [.str "least", tM m, .int k]) ((2 : Nat) : Int) = some (.int k) := atI_nat rfl
    exact SB.cons (ST.set 1 (EV.ix (EV.nm 0) EV.int x0) c_is_so.nd) (SB.cons (ST.no (ET.to (ET.cm (EV.nm 1) EV.str CS.eqS) (by decide)) SB.nil) (SB.cons (ST.no (ET.to (ET.cm (EV.nm 1) EV.str CS.eqS) (by decide)) SB.nil) (SB.cons (ST.no (ET.to (ET.cm (EV.nm 1) EV.str CS.eqS) (by decide)) SB.nil) (SB.cons (ST.no (ET.to (ET.cm (EV.nm 1) EV.str CS.eqS) (by decide)) SB.nil) (SB.stop (ST.yes (ET.to (ET.cm (EV.nm 1) EV.str CS.eqS) rfl) (SB.one (ST.ret (EV.to (EV.all (bs := m.flatten.map fun x => decide (k ≤ x)) (by rw [List.map_map]; exact LC.ev (LC.lM 2 (xs := m.flatten) (f := D.int) (own := [("one", 2)]) (by rfl) c_is_so.nd rfl (EV.c1 (ok_numbers_of W) (EV.ix (EV.nm 0) EV.int x1) ⟨m, hw, rfl, rfl⟩) rfl (Nat.le_refl _) OkM.refl hw.flat (fun x hx M => EV.cm (EV.nm 2) (EV.ix (EV.nm 0) EV.int x2) CS.geI))) W.b.all) (by rw [all_map]))))))))))
  | @less k m hw =>
    have x0 : ixD (.tup [.str "less", tM m, .int k]) ((0 : Nat) : Int) = some (.str "less") := atI_nat rfl
    have x1 : ixD (.tup [.str "less", tM m, .int k]) ((1 : Nat) : Int) = some (tM m) := atI_nat rfl
    have x2 : ixD (.tup [.str "less", tM m, .int k]) ((2 : Nat) : Int) = some (.int k) := atI_nat rfl
    exact SB.cons (ST.set 1 (EV.ix (EV.nm 0) EV.int x0) c_is_so.nd) (SB.cons (ST.no (ET.to (ET.cm (EV.nm 1) EV.str CS.eqS) (by decide)) SB.nil) (SB.cons (ST.no (ET.to (ET.cm (EV.nm 1) EV.str CS.eqS) (by decide)) SB.nil) (SB.cons (ST.no (ET.to (ET.cm (EV.nm 1) EV.str CS.eqS) (by decide)) SB.nil) (SB.cons (ST.no (ET.to (ET.cm (EV.nm 1) EV.str CS.eqS) (by decide)) SB.nil) (SB.cons (ST.no (ET.to (ET.cm (EV.nm 1) EV.str CS.eqS) (by decide)) SB.nil) (SB.stop (ST.yes (ET.to (ET.cm (EV.nm 1) EV.str CS.eqS) rfl) (SB.one (ST.ret (EV.to (EV.all (bs := m.flatten.map fun x => decide (x < k)) (by rw [List.map_map]; exact LC.ev (LC.lM 2 (xs := m.flatten) (f := D.int) (own := [("one", 2)]) (by rfl) c_is_so.nd rfl (EV.c1 (ok_numbers_of W) (EV.ix (EV.nm 0) EV.int x1) ⟨m, hw, rfl, rfl⟩) rfl (Nat.le_refl _) OkM.refl hw.flat (fun x hx M => EV.cm (EV.nm 2) (EV.ix (EV.nm 0) EV.int x2) CS.ltI))) W.b.all) (by rw [all_map])))))))))))
  | @echelon m hw =>
    have x0 : ixD (.tup [.str "echelon", tM m]) ((0 : Nat) : Int) = some (.str "echelon") := atI_nat rfl
    have x1 : ixD (.tup [.str "echelon", tM m]) ((1 : Nat) : Int) = some (tM m) := atI_nat rfl
    exact SB.cons (ST.set 1 (EV.ix (EV.nm 0) EV.int x0) c_is_so.nd) (SB.cons (ST.no (ET.to (ET.cm (EV.nm 1) EV.str CS.eqS) (by decide)) SB.nil) (SB.cons (ST.no (ET.to (ET.cm (EV.nm 1) EV.str CS.eqS) (by decide)) SB.nil) (SB.cons (ST.no (ET.to (ET.cm (EV.nm 1) EV.str CS.eqS) (by decide)) SB.nil) (SB.cons (ST.no (ET.to (ET.cm (EV.nm 1) EV.str CS.eqS) (by decide)) SB.nil) (SB.cons (ST.no (ET.to (ET.cm (EV.nm 1) EV.str CS.eqS) (by decide)) SB.nil) (SB.cons (ST.no (ET.to (ET.cm (EV.nm 1) EV.str CS.eqS) (by decide)) SB.nil) (SB.one (ST.ret (EV.c1 (ok_is_echelon W) (EV.ix (EV.nm 0) EV.int x1) ⟨_, rfl, rfl⟩)))))))))
open Classical in
noncomputable def goodB (d : D) : Bool := decide (CL d true)
open Classical in
theorem good_of {d : D} {b : Bool} (h : CL d b) : goodB d = b := by
  unfold goodB
  cases b with
  | true => exact decide_eq_true h
  | false => exact decide_eq_false fun h' => by cases h.inj h'
open Classical in
theorem good_no {d : D} (h : claimB d = false) : goodB d = false := decide_eq_false fun h' => by rw [h'.claim] at h; cases h
noncomputable def wrongD : D → D
  | .tup ds => optN (ds.findIdx? fun c => !goodB c)
  | _ => .int 0
def Milds (d : D) : Prop := ∀ ds, d = .tup ds → ds.length < 100000 ∧ ∀ c ∈ ds, Mild c
theorem ok_wrong_one (W : Wd g) : FN g "wrong_one" 5 (P1 fun d r => Milds d ∧ r = wrongD d) := by
  refine FN.mk1 W.t_wrong_one c_wrong_one (fun _ _ _ _ _ _ us hl => match us, hl with | [_], _ => rfl) (fun d r h => ?_)
  obtain ⟨hmd, rfl⟩ := h
  by_cases hd : d.isTup = true
  · obtain ⟨v, rfl⟩ : ∃ ds, d = .tup ds := by
      cases d <;> first | exact ⟨_, rfl⟩ | cases hd
    obtain ⟨hl, hmi⟩ := hmd v rfl
    have test : ∀ (i : Nat) (hi : i < v.length), ET (mkC g n_wrong_one s_wrong_one 4) (ifOf ((bodyOf ((defBody s_wrong_one).getD 1 (.Pass ⟨0, 0, 0, 0⟩))).getD 0 (.Pass ⟨0, 0, 0, 0⟩))) [.dat (.tup v), .dat (.int (i : Int)), .dat v[i]] [] (!goodB v[i]) [] := fun i hi => by
      have hm := hmi v[i] (List.getElem_mem hi)
      cases hc : claimB v[i] with
      | false =>
        rw [good_no hc]
        exact ET.to (EW.et (EW.or (k1 := true) (k2 := true) (ET.to (ET.not (ET.val (EV.c1 (ok_is_claim W) (EV.nm 2) ⟨hm.1, rfl⟩))) (by rw [hc]; rfl)) (fun z => nomatch z) (fun _ => rfl))) rfl
      | true =>
        obtain ⟨b, hb⟩ := claim_cl hc
        rw [good_of hb]
        exact ET.to (EW.et (EW.or (k1 := false) (ET.to (ET.not (ET.val (EV.c1 (ok_is_claim W) (EV.nm 2) ⟨hm.1, rfl⟩))) (by rw [hc]; rfl)) (fun _ => EW.or1 (ET.not (ET.val (EV.c1 (ok_is_so W) (EV.nm 2) ⟨b, hb, hm, rfl⟩)))) (fun z => nomatch z))) rfl
    have hat : ∀ i (hi : i < v.length), atN v i = .dat (.tup [.int (i : Int), v[i]]) := fun i hi => by
      unfold atN
      rw [List.getD_eq_getElem?_getD, List.getElem?_eq_getElem hi]
      rfl
    have step : ∀ (i : Nat) (hi : i < v.length), EG (mkC g n_wrong_one s_wrong_one 4) (tgOf ((defBody s_wrong_one).getD 1 (.Pass ⟨0, 0, 0, 0⟩))) (atN v i) [.dat (.tup v), .no, .no] [] [.dat (.tup v), .dat (.int (i : Int)), .dat v[i]] [] := fun i hi => by
      rw [hat i hi]
      exact EG.tup (ds := [.int (i : Int), v[i]]) (EGs.cons (EG.nm 1 c_wrong_one.nd) (EGs.cons (EG.nm 2 c_wrong_one.nd) EGs.nil))
    have isT : ST (mkC g n_wrong_one s_wrong_one 4) ((defBody s_wrong_one).getD 0 (.Pass ⟨0, 0, 0, 0⟩)) [.dat (.tup v), .no, .no] [] (.nx [.dat (.tup v), .no, .no] []) := ST.no (ET.to (ET.not (ET.val (EV.isTuple (EV.nm 0) W.b.isinstance W.b.tuple))) rfl) SB.nil
    show SB _ _ _ _ (.rt (.dat (optN (v.findIdx? fun c => !goodB c))) [])
    cases hf : v.findIdx? fun c => !goodB c with
    | none =>
      have hz : ∀ i (hi : i < v.length), (!goodB v[i]) = false := fun i hi => List.findIdx?_eq_none_iff.mp hf v[i] (List.getElem_mem hi)
      refine SB.cons isT (SB.cons (ST.for (m := v.length) (n := v.length) (E_ := fun _ => [.dat (.tup v), .no, .no]) (M_ := fun _ => []) (EI.enum (EV.nm 0) W.b.enumerate) Fg.refl rfl (Nat.le_refl _) (fun _ _ => True.intro) (fun i hi => ⟨_, _, _, step i hi, ?_, .inl (SB.one (ST.no (ET.to (test i hi) (hz i hi)) SB.nil))⟩) (.inl ⟨rfl, rfl⟩)) (SB.one (ST.ret EV.non)))
      exact Fg.cons (Fg.no (Fg.no Fg.nil))
    | some p =>
      obtain ⟨hp, h1, h2⟩ := List.findIdx?_eq_some_iff_getElem.mp hf
      have hz : ∀ i (hi : i < p), (!goodB (v[i]'(by omega))) = false := fun i hi => by
        have := h2 i hi
        simpa using this
      refine SB.cons isT (SB.stop (ST.for (m := p) (n := v.length) (E_ := fun _ => [.dat (.tup v), .no, .no]) (M_ := fun _ => []) (EI.enum (EV.nm 0) W.b.enumerate) Fg.refl rfl (Nat.le_of_lt hp) (fun _ _ => True.intro) (fun i hi => ⟨_, _, _, step i (by omega), ?_, .inl (SB.one (ST.no (ET.to (test i (by omega)) (hz i hi)) SB.nil))⟩) (.inr ⟨hp, _, _, step p hp, .inl ⟨_, _, SB.one (ST.yes (ET.to (test p hp) h1) (SB.one (ST.ret (EV.nm 1)))), rfl⟩⟩)))
      exact Fg.cons (Fg.no (Fg.no Fg.nil))
  · have hd' : d.isTup = false := by simpa using hd
    have hw : wrongD d = .int 0 := by
      cases d <;> first | rfl | cases hd'
    rw [hw]
    exact SB.stop (ST.yes (ET.to (ET.not (ET.val (EV.isTuple (EV.nm 0) W.b.isinstance W.b.tuple))) (by rw [hd']; rfl)) (SB.one (ST.ret EV.int)))
theorem ok_takes (W : Wd g) : FN g "takes" 6 (P1 fun d r => Milds d ∧ r = .bl (wrongD d).isN) := by
  refine FN.mk1 W.t_takes c_takes (fun _ _ _ _ _ _ us hl => match us, hl with | [_], _ => rfl) (fun d r h => ?_)
  obtain ⟨hm, rfl⟩ := h
  exact SB.one (ST.ret (EV.isN (EV.c1 (ok_wrong_one W) (EV.nm 0) ⟨hm, rfl⟩)))
theorem ok_first_wrong (W : Wd g) : FN g "first_wrong" 6 (P1 fun d r => Milds d ∧ r = wrongD d) := by
  refine FN.mk1 W.t_first_wrong c_first_wrong (fun _ _ _ _ _ _ us hl => match us, hl with | [_], _ => rfl) (fun d r h => ?_)
  obtain ⟨hm, rfl⟩ := h
  exact SB.one (ST.ret (EV.c1 (ok_wrong_one W) (EV.nm 0) ⟨hm, rfl⟩))
end
end
section
/-! ### Work -/
section
variable {g : Pg}
structure WS where
  r : List (List Int)
  t : List (List Int)
  b : List (List Int)
def swapL (l : List (List Int)) (i j : Nat) : List (List Int) := (l.set i (l.getD j [])).set j (l.getD i [])
def negL (l : List (List Int)) (i : Nat) : List (List Int) := l.set i ((l.getD i []).map fun x => -x)
def lessV (v : List Int) (k : Int) (w : List Int) : List Int := (v.zip w).map fun u => u.1 - k * u.2
def takeL (l : List (List Int)) (i : Nat) (k : Int) (j : Nat) : List (List Int) := l.set i (lessV (l.getD i []) k (l.getD j []))
def WS.swap (s : WS) (i j : Nat) : WS := ⟨swapL s.r i j, swapL s.t i j, swapL s.b i j⟩
def WS.turn (s : WS) (i : Nat) : WS := ⟨negL s.r i, negL s.t i, negL s.b i⟩
def WS.take (s : WS) (i : Nat) (k : Int) (j : Nat) : WS := ⟨takeL s.r i k j, takeL s.t i k j, takeL s.b j (-k) i⟩
abbrev cel (m : List (List Int)) : Option (List O) := some ((m.map lV).map O.dat)
abbrev wC (s : WS) : Mem := [cel s.r, cel s.t, cel s.b]
abbrev F0 : List (Str × Nat) := [("rows", 0), ("there", 1), ("back", 2)]
abbrev oW : O := .obj Ca F0
theorem lowW {n : Nat} {s : WS} : LowM n (wC s) := LowM.dat (LowM.dat (LowM.dat LowM.nil))
theorem mixW {s s' : WS} : Mix [0, 1, 2] (wC s) (wC s) (wC s') (wC s') := by
  refine ⟨rfl, by decide, rfl, fun i k h => ?_, fun k os h => ?_⟩
  · match i, h with
    | 0, h => cases h; exact congrArg (fun q => some (some q)) (ren_dat _).symm
    | 1, h => cases h; exact congrArg (fun q => some (some q)) (ren_dat _).symm
    | 2, h => cases h; exact congrArg (fun q => some (some q)) (ren_dat _).symm
    | n + 3, h => simp at h
  · match k, h with
    | 0, h => cases h; exact .inr ⟨0, _, rfl, .inl (by decide), rfl, (ren_dat _).symm⟩
    | 1, h => cases h; exact .inr ⟨1, _, rfl, .inl (by decide), rfl, (ren_dat _).symm⟩
    | 2, h => cases h; exact .inr ⟨2, _, rfl, .inl (by decide), rfl, (ren_dat _).symm⟩
    | n + 3, h => simp at h
theorem mixWn {s : WS} : Mix [] [] [] (wC s) (wC s) := by
  refine ⟨rfl, by decide, rfl, fun i k h => by simp at h, fun k os h => ?_⟩
  match k, h with
    | 0, h => cases h; exact .inr ⟨0, _, rfl, .inr (by decide), rfl, (ren_dat _).symm⟩
    | 1, h => cases h; exact .inr ⟨1, _, rfl, .inr (by decide), rfl, (ren_dat _).symm⟩
    | 2, h => cases h; exact .inr ⟨2, _, rfl, .inr (by decide), rfl, (ren_dat _).symm⟩
    | n + 3, h => simp at h
theorem EV.methW {C : Cc} {E : List O} {s s' : WS} {a e : Expr} {es : List Expr} {apos pos : Pos} {m : Str} {kf : Nat} {R : Rel} {ds : List D} {d : D} (F : MT C.g Ca m kf R) (ho : EV C a E (wC s) oW (wC s)) (ha : EA C (e :: es) E (wC s) (ds.map .dat) (wC s)) (cl : Cls C.g.K Ca) (hR : R (oW :: ds.map .dat) (wC s) (.dat d) (wC s')) (hl : F0.lookup m = none := by rfl) (hk : Nat.ble kf C.k = true := by rfl)
    (hst : ∀ env, starEach (e :: es) env = (false, eval e env) :: starEach es env := by intro _; rfl) (hpl : ∀ env, (backTo pos (starEach es env)).any (·.1) = false := by intro _; rfl)
    (ht : ∀ env, ∃ pl : Sem Bool, eval (.Call (.Attribute a m apos) (e :: es) [] pos) env = (do
      let ov ← eval a env
      standAt apos.atName
      let (f, first) ← holding [ov] (getMethod ov m pl)
      callWith pos f first (backTo pos (starEach (e :: es) env)) (backToKw pos (keywordEach [] env))) := by intro _; exact ⟨_, rfl⟩) :
    EV C (.Call (.Attribute a m apos) (e :: es) [] pos) E (wC s) (.dat d) (wC s') :=
  EV.meth (ι := [0, 1, 2]) F ho ha cl hR (by show _ = oW :: _; rw [ren_dat]) mixW hl hk hst hpl ht
theorem EV.callW {C : Cc} {E : List O} {s s' : WS} {e : Expr} {es : List Expr} {p pos : Pos} {x : Str} {kf : Nat} {R : Rel} {ds : List D} {d : D} (F : FN C.g x kf R) (ha : EA C (e :: es) E (wC s) (oW :: ds.map .dat) (wC s)) (hR : R (oW :: ds.map .dat) (wC s) (.dat d) (wC s')) (hk : Nat.ble kf C.k = true := by rfl)
    (hg : C.sc.names.lookup x = some .globalImplicit := by rfl) (hdb : (x == ("__debug__" : Str)) = false := by decide) (he : ∀ env, starEach (e :: es) env = (false, eval e env) :: starEach es env := by intro _; rfl) (hpl : ∀ env, (backTo pos (starEach es env)).any (·.1) = false := by intro _; rfl) :
    EV C (.Call (.Name x p) (e :: es) [] pos) E (wC s) (.dat d) (wC s') := EV.callG (ι := [0, 1, 2]) F ha hR (by show _ = oW :: _; rw [ren_dat]) mixW hk hg hdb he hpl
/-- attributes -/
theorem EV.rows {C : Cc} {E : List O} {M : Mem} {e : Expr} {pos : Pos} (W : Wd C.g) (h : EV C e E M oW M) (hb : ∀ env, attributeBase e "rows" env (eval e env) = eval e env := by intro _; rfl) : EV C (.Attribute e "rows" pos) E M (.adr 0) M := EV.fld h W.cls_Work W.no_rows rfl hb
theorem EV.there {C : Cc} {E : List O} {M : Mem} {e : Expr} {pos : Pos} (W : Wd C.g) (h : EV C e E M oW M) (hb : ∀ env, attributeBase e "there" env (eval e env) = eval e env := by intro _; rfl) : EV C (.Attribute e "there" pos) E M (.adr 1) M := EV.fld h W.cls_Work W.no_there rfl hb
theorem EV.back {C : Cc} {E : List O} {M : Mem} {e : Expr} {pos : Pos} (W : Wd C.g) (h : EV C e E M oW M) (hb : ∀ env, attributeBase e "back" env (eval e env) = eval e env := by intro _; rfl) : EV C (.Attribute e "back" pos) E M (.adr 2) M := EV.fld h W.cls_Work W.no_back rfl hb
theorem cel_at {m : List (List Int)} {i : Nat} (h : i < m.length) : atI ((m.map lV).map O.dat) (i : Int) = some (.dat (lV (m.getD i []))) := by
  refine atI_nat ?_
  rw [List.getElem?_map, List.getElem?_map, List.getElem?_eq_getElem h, List.getD_eq_getElem?_getD, List.getElem?_eq_getElem h]
  rfl
theorem cel_len {m : List (List Int)} : ((m.map lV).map O.dat).length = m.length := by rw [List.length_map, List.length_map]
theorem cel_ixN {m : List (List Int)} {i : Nat} (h : i < m.length) : ixN ((m.map lV).map O.dat).length (i : Int) = some i := by
  rw [cel_len]
  unfold ixN
  simp
  omega
theorem cel_set {m : List (List Int)} {i : Nat} {v : List Int} : (some (((m.map lV).map O.dat).set i (.dat (lV v))) : Option (List O)) = cel (m.set i v) := by
  show _ = some (((m.set i v).map lV).map O.dat)
  rw [List.map_set, List.map_set]
theorem ok_less_multiple (W : Wd g) : FN g "less_multiple" 1 (P3 fun d e f r => ∃ v k w, d = lV v ∧ e = .int k ∧ f = lV w ∧ v.length < 100000 ∧ (∀ y ∈ w, IntMulOk k y) ∧ r = lV (lessV v k w)) := by
  refine FN.mk3 W.t_less_multiple c_less_multiple (fun _ _ _ _ _ _ us hl => match us, hl with | [_, _, _], _ => rfl) (fun d e f r h => ?_)
  obtain ⟨v, k, w, rfl, rfl, rfl, hz, hm, rfl⟩ := h
  refine SB.one (ST.ret (EV.to (LC.ev (LC.lZ 3 4 (xs := v) (ys := w) (f1 := D.int) (f2 := D.int) (g := fun x y => .int (x - k * y)) (own := [("one", 3), ("other", 4)]) (by rfl) c_less_multiple.nd rfl (EV.nm 0) (EV.nm 2) (.inr ⟨rfl, rfl⟩) W.b.zip (Nat.le_refl _) OkM.refl hz
    (fun x _ y hy M => EV.sub (EV.nm 3) (EV.mul (EV.nm 1) (EV.nm 4) (hm y hy))))) ?_))
  show O.dat (.lst _) = O.dat (.lst _)
  unfold lessV
  rw [List.map_map]
  rfl
end
section
variable {g : Pg}
def swapR : Rel := fun os M o M' => ∃ (s : WS) (i j : Nat), i < s.r.length ∧ j < s.r.length ∧ s.t.length = s.r.length ∧ s.b.length = s.r.length ∧ os = [oW, .dat (.int (i : Int)), .dat (.int (j : Int))] ∧ M = wC s ∧ o = .dat .non ∧ M' = wC (s.swap i j)
theorem sw_none {a b c d x1 x2 y1 y2 : Expr} {p q u v r1 r2 : Pos} {k k2 : Nat} (env : Env) : swappedStores [.Tuple [.Subscript a b p, .Subscript c d q] k r1] (.Tuple [.Subscript x1 x2 u, .Subscript y1 y2 v] k2 r2) env = pure none := by
  unfold swappedStores
  cases h : env.blockKind <;> simp <;> rfl
/-- one list of three -/
theorem swap_one {n : Nat} {m : List (List Int)} {i j : Nat} {M M2 : Mem} {k : Nat} (hi : i < m.length) (hj : j < m.length) (hm : M[n]? = some (cel m)) (hM : M2 = M.set n (cel (swapL m i j))) :
    SB (mkCd g n_Work_swap s_Work_swap k none) (bodyOf ((defBody s_Work_swap).getD 0 (.Pass ⟨0, 0, 0, 0⟩))) [oW, .dat (.int (i : Int)), .dat (.int (j : Int)), .adr n] M (.nx [oW, .dat (.int (i : Int)), .dat (.int (j : Int)), .adr n] M2) := by
  have hn : n < M.length := (List.getElem?_eq_some_iff.mp hm).1
  refine SB.one (ST.to (ST.asg (EV.tup (ds := [lV (m.getD j []), lV (m.getD i [])]) (EA.cons (EV.ixC (EV.nm 3) (EV.nm 2) hm (cel_at hj)) (EA.cons (EV.ixC (EV.nm 3) (EV.nm 1) hm (cel_at hi)) EA.nil)) (by simp))
    (EG.tup (ds := [lV (m.getD j []), lV (m.getD i [])]) (EGs.cons (EG.sub (EV.nm 3) (EV.nm 1) hm (cel_ixN hi)) (EGs.cons (EG.sub (ps := (((m.set i (m.getD j [])).map lV).map O.dat)) (EV.nm 3) (EV.nm 2) (by rw [List.getElem?_set_self hn, cel_set]) (by rw [cel_len, List.length_set]; have := cel_ixN hj; rw [cel_len] at this; exact this)) EGs.nil))) (hw := fun env => sw_none env)) ?_)
  subst hM
  rw [cel_set, List.set_set, cel_set]
  rfl
theorem ok_swap (W : Wd g) : MT g Ca "swap" 1 swapR := by
  refine MT.mk W.m_swap c_Work_swap (fun _ _ _ _ _ _ us hl => match us, hl with | [_, _, _], _ => rfl) (fun os M o M' h => ?_) (fun os M o M' h => ?_)
  · obtain ⟨s, i, j, _, _, _, _, rfl, _⟩ := h
    rfl
  obtain ⟨s, i, j, hi, hj, ht, hb, rfl, rfl, rfl, rfl⟩ := h
  refine ⟨Nat.le_refl _, True.intro, lowW, .inr ⟨rfl, [oW, .dat (.int (i : Int)), .dat (.int (j : Int)), .no], [], ?_⟩⟩
  let MM : Nat → Mem := fun n => match n with
    | 0 => wC s
    | 1 => wC ⟨swapL s.r i j, s.t, s.b⟩
    | 2 => wC ⟨swapL s.r i j, swapL s.t i j, s.b⟩
    | _ => wC (s.swap i j)
  refine SB.one (ST.forN 3 (n := 3) (E_ := fun _ => [oW, .dat (.int (i : Int)), .dat (.int (j : Int)), .no]) (M_ := MM) (EI.disp (EA.cons (EV.rows W (EV.nm 0)) (EA.cons (EV.there W (EV.nm 0)) (EA.cons (EV.back W (EV.nm 0)) EA.nil))) (by decide)) Fg.refl rfl (fun _ _ => True.intro) c_Work_swap.nd (fun n hn => ?_))
  match n, hn with
  | 0, _ => exact ⟨_, Fg.cons (Fg.cons (Fg.cons (Fg.no Fg.nil))), swap_one hi hj rfl rfl⟩
  | 1, _ => exact ⟨_, Fg.cons (Fg.cons (Fg.cons (Fg.no Fg.nil))), swap_one (m := s.t) (by omega) (by omega) rfl rfl⟩
  | 2, _ => exact ⟨_, Fg.cons (Fg.cons (Fg.cons (Fg.no Fg.nil))), swap_one (m := s.b) (by omega) (by omega) rfl rfl⟩
def turnR : Rel := fun os M o M' => ∃ (s : WS) (i : Nat), i < s.r.length ∧ s.t.length = s.r.length ∧ s.b.length = s.r.length ∧ (∀ q ∈ s.r ++ (s.t ++ s.b), q.length < 100000) ∧ os = [oW, .dat (.int (i : Int))] ∧ M = wC s ∧ o = .dat .non ∧ M' = wC (s.turn i)
theorem turn_one {n : Nat} {m : List (List Int)} {i : Nat} {M M2 : Mem} {k : Nat} (hi : i < m.length) (hz : ∀ q ∈ m, q.length < 100000) (hm : M[n]? = some (cel m)) (hM : M2 = M.set n (cel (negL m i))) :
    SB (mkCd g n_Work_turn s_Work_turn k none) (bodyOf ((defBody s_Work_turn).getD 0 (.Pass ⟨0, 0, 0, 0⟩))) [oW, .dat (.int (i : Int)), .adr n, .no] M (.nx [oW, .dat (.int (i : Int)), .adr n, .no] M2) := by
  have hn : n < M.length := (List.getElem?_eq_some_iff.mp hm).1
  have hr : m.getD i [] ∈ m := mem_getD hi
  refine SB.one (ST.to (ST.asg (LC.ev (LC.lM 3 (xs := m.getD i []) (f := D.int) (g := fun x => .int (-x)) (own := [("one", 3)]) (by rfl) c_Work_turn.nd rfl (EV.ixC (EV.nm 2) (EV.nm 1) hm (cel_at hi)) rfl (Nat.le_refl _) OkM.refl (hz _ hr) (fun y _ M => EV.neg (EV.nm 3)))) (EG.sub (EV.nm 2) (EV.nm 1) hm (cel_ixN hi))) ?_)
  have e : (D.lst ((m.getD i []).map fun x => D.int (-x))) = lV ((m.getD i []).map fun x => -x) := by
    show D.lst _ = D.lst _
    rw [List.map_map]
    rfl
  rw [e, cel_set]
  subst hM
  rfl
theorem ok_turn (W : Wd g) : MT g Ca "turn" 1 turnR := by
  refine MT.mk W.m_turn c_Work_turn (fun _ _ _ _ _ _ us hl => match us, hl with | [_, _], _ => rfl) (fun os M o M' h => ?_) (fun os M o M' h => ?_)
  · obtain ⟨s, i, _, _, _, _, rfl, _⟩ := h
    rfl
  obtain ⟨s, i, hi, ht, hb, hz, rfl, rfl, rfl, rfl⟩ := h
  refine ⟨Nat.le_refl _, True.intro, lowW, .inr ⟨rfl, [oW, .dat (.int (i : Int)), .no, .no], [], ?_⟩⟩
  let MM : Nat → Mem := fun n => match n with
    | 0 => wC s
    | 1 => wC ⟨negL s.r i, s.t, s.b⟩
    | 2 => wC ⟨negL s.r i, negL s.t i, s.b⟩
    | _ => wC (s.turn i)
  refine SB.one (ST.forN 2 (n := 3) (E_ := fun _ => [oW, .dat (.int (i : Int)), .no, .no]) (M_ := MM) (EI.disp (EA.cons (EV.rows W (EV.nm 0)) (EA.cons (EV.there W (EV.nm 0)) (EA.cons (EV.back W (EV.nm 0)) EA.nil))) (by decide)) Fg.refl rfl (fun _ _ => True.intro) c_Work_turn.nd (fun n hn => ?_))
  match n, hn with
  | 0, _ => exact ⟨_, Fg.cons (Fg.cons (Fg.no (Fg.no Fg.nil))), turn_one (m := s.r) hi (fun q h => hz q (by simp [h])) rfl rfl⟩
  | 1, _ => exact ⟨_, Fg.cons (Fg.cons (Fg.no (Fg.no Fg.nil))), turn_one (m := s.t) (by omega) (fun q h => hz q (by simp [h])) rfl rfl⟩
  | 2, _ => exact ⟨_, Fg.cons (Fg.cons (Fg.no (Fg.no Fg.nil))), turn_one (m := s.b) (by omega) (fun q h => hz q (by simp [h])) rfl rfl⟩
/-- the products that a take asks for -/
def takeOk (s : WS) (i : Nat) (k : Int) (j : Nat) : Prop := (∀ y ∈ s.r.getD j [], IntMulOk k y) ∧ (∀ y ∈ s.t.getD j [], IntMulOk k y) ∧ (∀ y ∈ s.b.getD i [], IntMulOk (-k) y)
def takeR : Rel := fun os M o M' => ∃ (s : WS) (i : Nat) (k : Int) (j : Nat), i < s.r.length ∧ j < s.r.length ∧ s.t.length = s.r.length ∧ s.b.length = s.r.length ∧ (∀ q ∈ s.r ++ (s.t ++ s.b), q.length < 100000) ∧ takeOk s i k j ∧ os = [oW, .dat (.int (i : Int)), .dat (.int k), .dat (.int (j : Int))] ∧ M = wC s ∧ o = .dat .non ∧ M' = wC (s.take i k j)
theorem ok_take (W : Wd g) : MT g Ca "take" 2 takeR := by
  refine MT.mk W.m_take c_Work_take (fun _ _ _ _ _ _ us hl => match us, hl with | [_, _, _, _], _ => rfl) (fun os M o M' h => ?_) (fun os M o M' h => ?_)
  · obtain ⟨s, i, k, j, _, _, _, _, _, _, rfl, _⟩ := h
    rfl
  obtain ⟨s, i, k, j, hi, hj, ht, hb, hz, ⟨o1, o2, o3⟩, rfl, rfl, rfl, rfl⟩ := h
  refine ⟨Nat.le_refl _, True.intro, lowW, .inr ⟨rfl, [oW, .dat (.int (i : Int)), .dat (.int k), .dat (.int (j : Int))], [], ?_⟩⟩
  have z1 : ∀ {m : List (List Int)} {i : Nat}, i < m.length → (∀ q ∈ m, q ∈ s.r ++ (s.t ++ s.b)) → (m.getD i []).length < 100000 := fun {m i} h q => hz _ (q _ (mem_getD h))
  refine SB.cons (E1 := [oW, .dat (.int (i : Int)), .dat (.int k), .dat (.int (j : Int))]) (M1 := wC ⟨takeL s.r i k j, s.t, s.b⟩) (ST.to (ST.asg (EV.c3 (ok_less_multiple W) (EV.ixC (EV.rows W (EV.nm 0)) (EV.nm 1) rfl (cel_at hi)) (EV.nm 2) (EV.ixC (EV.rows W (EV.nm 0)) (EV.nm 3) rfl (cel_at hj)) ⟨_, _, _, rfl, rfl, rfl, z1 hi (fun q h => by simp [h]), o1, rfl⟩) (EG.sub (EV.rows W (EV.nm 0)) (EV.nm 1) rfl (cel_ixN hi))) (by rw [cel_set]; rfl)) ?_
  refine SB.cons (E1 := [oW, .dat (.int (i : Int)), .dat (.int k), .dat (.int (j : Int))]) (M1 := wC ⟨takeL s.r i k j, takeL s.t i k j, s.b⟩) (ST.to (ST.asg (EV.c3 (ok_less_multiple W) (EV.ixC (EV.there W (EV.nm 0)) (EV.nm 1) rfl (cel_at (ht ▸ hi))) (EV.nm 2) (EV.ixC (EV.there W (EV.nm 0)) (EV.nm 3) rfl (cel_at (ht ▸ hj))) ⟨_, _, _, rfl, rfl, rfl, z1 (ht ▸ hi) (fun q h => by simp [h]), o2, rfl⟩) (EG.sub (EV.there W (EV.nm 0)) (EV.nm 1) rfl (cel_ixN (ht ▸ hi)))) (by rw [cel_set]; rfl)) ?_
  exact SB.one (ST.to (ST.asg (EV.c3 (ok_less_multiple W) (EV.ixC (EV.back W (EV.nm 0)) (EV.nm 3) rfl (cel_at (hb ▸ hj))) (EV.neg (EV.nm 2)) (EV.ixC (EV.back W (EV.nm 0)) (EV.nm 1) rfl (cel_at (hb ▸ hi))) ⟨_, _, _, rfl, rfl, rfl, z1 (hb ▸ hj) (fun q h => by simp [h]), o3, rfl⟩) (EG.sub (EV.back W (EV.nm 0)) (EV.nm 3) rfl (cel_ixN (hb ▸ hj)))) (by rw [cel_set]; rfl))
end
end
section
section
variable {C : Cc} {E : List O} {M M1 : Mem} {iter elt c : Expr} {p : Pos} {x : Str} {d : D} {scope : Scope} {own : List (Str × Nat)}
theorem LC.lMC {α : Type} (jx : Nat) {M1 : Mem} {xs : List α} {f g : α → D} (ok : blkC C.N C.sc scope own = true) (nd : C.N.Nodup) (ho : own.map (·.2) = [jx]) (h : EV C iter E M (.dat d) M1) (hd : seqD d = some (xs.map f)) (hz : xs.length < 100000)
    (step : ∀ y ∈ xs, ∀ M, EV (C.blk scope) elt ((wipeE E [jx]).set jx (.dat (f y))) M (.dat (g y)) M) (hi : C.N[jx]? = some x := by rfl) (hx : Loc (C.blk scope).sc x := by first | exact Or.inl rfl | exact Or.inr rfl) (hf' : (C.blk scope).fn x = true ∨ (C.blk scope).sc.names.lookup x = some .local := by first | exact .inl rfl | exact .inr rfl)
    (hf : ∀ env x, foldedSetIterable iter env x = pure x := by intro _ _; rfl) : LC C elt (.Name x p) iter [] scope own E M (.adr M1.length) (M1 ++ [some ((xs.map g).map .dat)]) := by
  have hlen : (xs.map f).length = xs.length := List.length_map _
  have key := LC.lPC (tg := .Name x p) (elt := elt) (ifs := []) (scope := scope) (own := own) (n := (xs.map f).length) (v := fun i => (xs.map g).getD i .non) (f := fun _ => true) ok nd (EI.seq h hd) (fun _ => True.intro) (by omega) (fun i hi' => by
    rw [hlen] at hi'
    refine ⟨_, fun M => EGv.nm jx nd (by rw [ho]; simp) hi hx hf', fun M => EP.nil, fun _ M => ?_⟩
    rw [ho, atO_map hi']
    have e : (xs.map g).getD i .non = g xs[i] := by
      rw [List.getD_eq_getElem?_getD, List.getElem?_map, List.getElem?_eq_getElem hi']
      rfl
    rw [e]
    exact step _ (List.getElem_mem hi') M) hf
  have e2 : ((List.range (xs.map f).length).filter fun _ => true).map (fun i => (xs.map g).getD i D.non) = xs.map g := by
    rw [List.filter_eq_self.mpr (fun _ _ => rfl), hlen, ← List.length_map g]
    exact range_getD _ _
  rw [e2] at key
  exact key
/-- over a cell of data -/
theorem LC.lMc {α : Type} (jx : Nat) {nc : Nat} {xs : List α} {f g : α → D} (ok : blkC C.N C.sc scope own = true) (nd : C.N.Nodup) (ho : own.map (·.2) = [jx]) (h : EV C iter E M (.adr nc) M) (hm : M[nc]? = some (some ((xs.map f).map .dat))) (hz : xs.length < 100000)
    (step : ∀ y ∈ xs, ∀ M, EV (C.blk scope) elt ((wipeE E [jx]).set jx (.dat (f y))) M (.dat (g y)) M) (hi : C.N[jx]? = some x := by rfl) (hx : Loc (C.blk scope).sc x := by first | exact Or.inl rfl | exact Or.inr rfl) (hf' : (C.blk scope).fn x = true ∨ (C.blk scope).sc.names.lookup x = some .local := by first | exact .inl rfl | exact .inr rfl)
    (hf : ∀ env x, foldedSetIterable iter env x = pure x := by intro _ _; rfl) : LC C elt (.Name x p) iter [] scope own E M (.dat (.lst (xs.map g))) M := by
  have hlen : ((xs.map f).map O.dat).length = xs.length := by rw [List.length_map, List.length_map]
  have hn : nc < M.length := (List.getElem?_eq_some_iff.mp hm).1
  have key := LC.lPF (tg := .Name x p) (elt := elt) (ifs := []) (scope := scope) (own := own) (n := ((xs.map f).map O.dat).length) (v := fun i => (xs.map g).getD i .non) (f := fun _ => true) ok nd (EI.cell h hm) (fun c => by rw [List.getElem?_append_left hn]; exact hm) (by omega) (Nat.le_refl _) OkM.refl (fun i hi' => by
    rw [hlen] at hi'
    refine ⟨_, fun M => EGv.nm jx nd (by rw [ho]; simp) hi hx hf', fun M => EP.nil, fun _ M => ?_⟩
    have e0 : ((xs.map f).map O.dat).getD i .no = .dat (f xs[i]) := by
      rw [List.getD_eq_getElem?_getD, List.getElem?_map, List.getElem?_map, List.getElem?_eq_getElem hi']
      rfl
    rw [ho, e0]
    have e : (xs.map g).getD i .non = g xs[i] := by
      rw [List.getD_eq_getElem?_getD, List.getElem?_map, List.getElem?_eq_getElem hi']
      rfl
    rw [e]
    exact step _ (List.getElem_mem hi') M) hf
  have e2 : ((List.range ((xs.map f).map O.dat).length).filter fun _ => true).map (fun i => (xs.map g).getD i D.non) = xs.map g := by
    rw [List.filter_eq_self.mpr (fun _ _ => rfl), hlen, ← List.length_map g]
    exact range_getD _ _
  rw [e2] at key
  exact key
end
section
variable {g : Pg}
def wsOf (a : List (List Int)) : WS := ⟨a, unitM a.length, unitM a.length⟩
def initR : RelI := fun os M fs M' => ∃ a : List (List Int), a.length < 100000 ∧ os = [.dat (tM a)] ∧ M = [] ∧ fs = F0 ∧ M' = wC (wsOf a)
theorem unit_len {n : Nat} : (unitM n).length = n := by unfold unitM; rw [List.length_map, List.length_range]
theorem ok_Work (W : Wd g) : MK g "Work" Ca 2 initR := by
  obtain ⟨f, fd, F, hM⟩ := W.in_Work
  refine MK.mk F hM W.mg_Work c_Work_init (fun _ _ _ _ _ _ us hl => match us, hl with | [_, _], _ => rfl) (by decide) (fun os M fs M' h => ?_) (fun os M fs M' h => ?_)
  · obtain ⟨a, _, rfl, _⟩ := h
    rfl
  obtain ⟨a, hz, rfl, rfl, rfl, rfl⟩ := h
  have cp : ∀ {m : List (List Int)}, (some ((m.map fun r => lV r).map O.dat) : Option (List O)) = cel m := fun {m} => rfl
  refine DoI.cons (k := 0) (M1 := [cel a]) (LC.ev (LC.lMC (M1 := []) 2 (xs := a) (f := tV) (g := lV) (own := [("row", 2)]) (by rfl) c_Work_init.nd rfl (EV.nm 1) rfl hz (fun y _ M => EV.list (EV.nm 2) rfl W.b.list))) ?_ W.cls_Work W.no_rows (by decide)
  refine DoI.cons (k := 1) (M1 := [cel a, cel (unitM a.length)]) (LC.ev (LC.lMC (M1 := [cel a]) 2 (xs := unitM a.length) (f := tV) (g := lV) (own := [("row", 2)]) (by rfl) c_Work_init.nd rfl (EV.c1 (ok_unit W) (EV.len (EV.nm 1) len_tM W.b.len) ⟨a.length, hz, rfl, rfl⟩) rfl (by rw [unit_len]; exact hz) (fun y _ M => EV.list (EV.nm 2) rfl W.b.list))) ?_ W.cls_Work W.no_there (by decide)
  refine DoI.cons (k := 2) (M1 := wC (wsOf a)) (LC.ev (LC.lMC (M1 := [cel a, cel (unitM a.length)]) 2 (xs := unitM a.length) (f := tV) (g := lV) (own := [("row", 2)]) (by rfl) c_Work_init.nd rfl (EV.c1 (ok_unit W) (EV.len (EV.nm 1) len_tM W.b.len) ⟨a.length, hz, rfl, rfl⟩) rfl (by rw [unit_len]; exact hz) (fun y _ M => EV.list (EV.nm 2) rfl W.b.list))) DoI.nil W.cls_Work W.no_back (by decide)
def waysR : Rel := fun os M o M' => ∃ s : WS, s.r.length < 100000 ∧ s.t.length < 100000 ∧ s.b.length < 100000 ∧ s.b ≠ [] ∧ (∀ q ∈ s.b, q.length = wd s.b) ∧ wd s.b < 100000 ∧ os = [oW] ∧ M = wC s ∧ o = .dat (.tup [tM s.r, tM s.t, tM (flip s.b)]) ∧ M' = wC s
theorem tM_lst {m : List (List Int)} : D.tup (m.map fun r => tV r) = tM m := rfl
theorem ok_ways (W : Wd g) : MT g Ca "ways" 2 waysR := by
  refine MT.mk W.m_ways c_Work_ways (fun _ _ _ _ _ _ us hl => match us, hl with | [_], _ => rfl) (fun os M o M' h => ?_) (fun os M o M' h => ?_)
  · obtain ⟨s, _, _, _, _, _, _, rfl, _⟩ := h
    rfl
  obtain ⟨s, z1, z2, z3, hne, hr, hw, rfl, rfl, rfl, rfl⟩ := h
  refine ⟨Nat.le_refl _, True.intro, lowW, .inl ⟨[], ?_⟩⟩
  refine SB.cons (E1 := [oW, .dat (tM s.t), .no, .no]) (M1 := wC s) (ST.set 1 (EV.tuple (LC.ev (LC.lMc 3 (nc := 1) (xs := s.t) (f := lV) (g := tV) (own := [("row", 3)]) (by rfl) c_Work_ways.nd rfl (EV.there W (EV.nm 0)) rfl z2 (fun y _ M => EV.tuple (EV.nm 3) rfl W.b.tuple))) rfl W.b.tuple) c_Work_ways.nd) ?_
  refine SB.cons (E1 := [oW, .dat (tM s.t), .dat (tM (flip s.b)), .no]) (M1 := wC s) (ST.set 2 (EV.c1 (ok_flipped W) (EV.tuple (LC.ev (LC.lMc 3 (nc := 2) (xs := s.b) (f := lV) (g := tV) (own := [("row", 3)]) (by rfl) c_Work_ways.nd rfl (EV.back W (EV.nm 0)) rfl z3 (fun y _ M => EV.tuple (EV.nm 3) rfl W.b.tuple))) rfl W.b.tuple) ⟨s.b, rfl, hne, hr, z3, hw, rfl⟩) c_Work_ways.nd) ?_
  exact SB.one (ST.ret (EV.tup (ds := [tM s.r, tM s.t, tM (flip s.b)]) (EA.cons (EV.tuple (LC.ev (LC.lMc 3 (nc := 0) (xs := s.r) (f := lV) (g := tV) (own := [("row", 3)]) (by rfl) c_Work_ways.nd rfl (EV.rows W (EV.nm 0)) rfl z1 (fun y _ M => EV.tuple (EV.nm 3) rfl W.b.tuple))) rfl W.b.tuple) (EA.cons (EV.nm 1) (EA.cons (EV.nm 2) EA.nil))) (by simp)))
theorem methW0 {C : Cc} {E : List O} {s : WS} {a : Expr} {apos pos : Pos} {m : Str} {kf : Nat} {R : Rel} {d : D} (F : MT C.g Ca m kf R) (ho : EV C a E (wC s) oW (wC s)) (cl : Cls C.g.K Ca) (hR : R [oW] (wC s) (.dat d) (wC s)) (hl : F0.lookup m = none := by rfl) (hk : Nat.ble kf C.k = true := by rfl)
    (ht : ∀ env, ∃ pl : Sem Bool, eval (.Call (.Attribute a m apos) [] [] pos) env = (do
      let ov ← eval a env
      standAt apos.atName
      let (f, first) ← holding [ov] (getMethod ov m pl)
      callWith pos f first (backTo pos (starEach [] env)) (backToKw pos (keywordEach [] env))) := by intro _; exact ⟨_, rfl⟩) :
    EV C (.Call (.Attribute a m apos) [] [] pos) E (wC s) (.dat d) (wC s) := by
  obtain ⟨f, fd, ps, hm, F, hb⟩ := F
  refine EV.mk (t := tMeth Ca m (spR R) [] E0 (UE C a) tNil) (fun X hX => ?_) fun I H adr σ Q st q => ?_
  · obtain ⟨pl, hpl'⟩ := ht X.env
    exact pe_meth0 (pl := pl) (C := Ca) (k := kf) (f := f) (fd := fd) (ps := ps) (ue hX a) (by rw [hX.K]; exact cl) (by rw [hX.K]; exact hm) (by rw [hX.P, hX.w, hX.K, hX.mg, hX.base]; exact F) (hX.room.mono (Nat.le_of_ble_eq_true hk)) (by rw [hX.K]; exact hb) .nil pass0 hpl'
  · refine ho I H adr σ _ st fun v I1 H1 adr1 s1 g1 v1 => ?_
    have v1' := v1
    obtain ⟨p, dx, gs, rfl, h2, h3⟩ := v1
    refine ⟨p, dx, gs, rfl, s1.ex _ _ h2, fpNone h3 hl, ?_⟩
    obtain ⟨adr0, sto0, vs0, back⟩ := call_mix s1 (mixW (s := s) (s' := s))
    have v3 : Vs I1 adr1 [oW] [.ref p] := .cons v1' .nil
    show spR R [.ref p] H1 Q E0
    refine ⟨I1, adr0, [oW], wC s, .dat d, wC s, hR, s1.ex, sto0, vs0 [oW] _ v3, fun z I3 H3 adr0' ex3 sto3 g3 v4 => ?_⟩
    obtain ⟨adr3, s3, g4, dr⟩ := back I3 H3 adr0' ex3 sto3 g3
    exact q z I3 H3 adr3 s3 (g1.trans g4) (dr (.dat d) _ v4)
end
/-! ### clear_column -/
section
variable {g : Pg}
def ent (s : WS) (i c : Nat) : Int := (s.r.getD i []).getD c 0
structure Wf (s : WS) (n w : Nat) : Prop where
  r : s.r.length = n
  t : s.t.length = n
  b : s.b.length = n
  rw : ∀ q ∈ s.r, q.length = w
  tw : ∀ q ∈ s.t, q.length = n
  bw : ∀ q ∈ s.b, q.length = n
  n0 : 1 ≤ n
  n1 : n ≤ 1000
  w1 : w ≤ 1000
theorem Wf.small {s : WS} {n w : Nat} (h : Wf s n w) : ∀ q ∈ s.r ++ (s.t ++ s.b), q.length < 100000 := fun q hq => by
  have h1 := h.n1
  have h2 := h.w1
  simp only [List.mem_append] at hq
  rcases hq with hq | hq | hq
  · rw [h.rw q hq]; omega
  · rw [h.tw q hq]; omega
  · rw [h.bw q hq]; omega
theorem lessV_len {v w : List Int} {k : Int} (h : v.length = w.length) : (lessV v k w).length = v.length := by
  unfold lessV
  rw [List.length_map, List.length_zip]
  omega
theorem mem_set' {α : Type} {l : List α} {i : Nat} {a x : α} (h : x ∈ l.set i a) : x = a ∨ x ∈ l := by
  rcases List.mem_or_eq_of_mem_set h with h | h
  · exact .inr h
  · exact .inl h
theorem Wf.swap {s : WS} {n w i j : Nat} (h : Wf s n w) (hi : i < n) (hj : j < n) : Wf (s.swap i j) n w := by
  have key : ∀ {l : List (List Int)} {u : Nat}, l.length = n → (∀ q ∈ l, q.length = u) → (swapL l i j).length = n ∧ ∀ q ∈ swapL l i j, q.length = u := fun {l u} hl hq => by
    unfold swapL
    refine ⟨by rw [List.length_set, List.length_set]; exact hl, fun q hq' => ?_⟩
    rcases mem_set' hq' with rfl | hq'
    · exact hq _ (mem_getD (by omega))
    · rcases mem_set' hq' with rfl | hq'
      · exact hq _ (mem_getD (by omega))
      · exact hq _ hq'
  exact ⟨(key h.r h.rw).1, (key h.t h.tw).1, (key h.b h.bw).1, (key h.r h.rw).2, (key h.t h.tw).2, (key h.b h.bw).2, h.n0, h.n1, h.w1⟩
theorem Wf.turn {s : WS} {n w i : Nat} (h : Wf s n w) (hi : i < n) : Wf (s.turn i) n w := by
  have key : ∀ {l : List (List Int)} {u : Nat}, l.length = n → (∀ q ∈ l, q.length = u) → (negL l i).length = n ∧ ∀ q ∈ negL l i, q.length = u := fun {l u} hl hq => by
    unfold negL
    refine ⟨by rw [List.length_set]; exact hl, fun q hq' => ?_⟩
    rcases mem_set' hq' with rfl | hq'
    · rw [List.length_map]
      exact hq _ (mem_getD (by omega))
    · exact hq _ hq'
  exact ⟨(key h.r h.rw).1, (key h.t h.tw).1, (key h.b h.bw).1, (key h.r h.rw).2, (key h.t h.tw).2, (key h.b h.bw).2, h.n0, h.n1, h.w1⟩
theorem Wf.take {s : WS} {n w i j : Nat} {k : Int} (h : Wf s n w) (hi : i < n) (hj : j < n) : Wf (s.take i k j) n w := by
  have key : ∀ {l : List (List Int)} {u : Nat} {i j : Nat} {k : Int}, i < n → j < n → l.length = n → (∀ q ∈ l, q.length = u) → (takeL l i k j).length = n ∧ ∀ q ∈ takeL l i k j, q.length = u := fun {l u i j k} hi hj hl hq => by
    unfold takeL
    refine ⟨by rw [List.length_set]; exact hl, fun q hq' => ?_⟩
    have e1 := hq _ (mem_getD (a0 := []) (show i < l.length by omega))
    have e2 := hq _ (mem_getD (a0 := []) (show j < l.length by omega))
    rcases mem_set' hq' with rfl | hq'
    · rw [lessV_len (by rw [e1, e2])]
      exact e1
    · exact hq _ hq'
  exact ⟨(key hi hj h.r h.rw).1, (key hi hj h.t h.tw).1, (key hj hi h.b h.bw).1, (key hi hj h.r h.rw).2, (key hi hj h.t h.tw).2, (key hj hi h.b h.bw).2, h.n0, h.n1, h.w1⟩
/-- the places from lo on whose number is not 0 -/
def bl (s : WS) (lo c : Nat) : List Nat := ((List.range (s.r.length - lo)).filter fun i => !decide (ent s (lo + i) c = 0)).map fun i => lo + i
def bestI (ka kb : Nat → Int) : Nat → Nat
  | 0 => 0
  | n + 1 => if kLess ka kb (n + 1) (bestI ka kb n) then n + 1 else bestI ka kb n
theorem bestI_le {ka kb : Nat → Int} : ∀ n, bestI ka kb n ≤ n
  | 0 => Nat.le_refl _
  | n + 1 => by
    unfold bestI
    split
    · exact Nat.le_refl _
    · exact Nat.le_succ_of_le (bestI_le n)
theorem bestI_ok {ka kb : Nat → Int} : ∀ n, kBest ka kb (n + 1) (bestI ka kb n)
  | 0 => fun j hj => by
    have e : j = 0 := by omega
    subst e
    exact ⟨(show ¬ kLess ka kb 0 0 by unfold kLess; omega), fun h => by simp [bestI] at h⟩
  | n + 1 => fun j hj => by
    have ih := bestI_ok (ka := ka) (kb := kb) n
    have hle := bestI_le (ka := ka) (kb := kb) n
    unfold bestI
    by_cases hc : kLess ka kb (n + 1) (bestI ka kb n)
    · rw [if_pos hc]
      by_cases e : j = n + 1
      · subst e
        exact ⟨by unfold kLess; omega, fun h => by omega⟩
      · have h1 := ih j (by omega)
        unfold kLess at *
        omega
    · rw [if_neg hc]
      by_cases e : j = n + 1
      · subst e
        exact ⟨hc, fun h => by omega⟩
      · exact ih j (by omega)
def bestAt (s : WS) (c : Nat) (l : List Nat) : Nat := l.getD (bestI (fun j => ((ent s (l.getD j 0) c).natAbs : Int)) (fun j => (l.getD j 0 : Int)) (l.length - 1)) 0
def swapIf (s : WS) (best top : Nat) : WS := if best = top then s else s.swap best top
def turnIf (s : WS) (top c : Nat) : WS := if ent s top c < 0 then s.turn top else s
def prep (s : WS) (top c best : Nat) : WS := turnIf (swapIf s best top) top c
def sub1 (top c : Nat) (s : WS) (at_ : Nat) : WS := s.take at_ ((ent s at_ c).fdiv (ent s top c)) top
def subs (s : WS) (top c lo : Nat) : Nat → WS
  | 0 => s
  | k + 1 => sub1 top c (subs s top c lo k) (lo + k)
def rnd (s : WS) (top c : Nat) (l : List Nat) : WS := subs (prep s top c (bestAt s c l)) top c (top + 1) (s.r.length - (top + 1))
def itr (s : WS) (top c : Nat) : Nat → WS × List Nat
  | 0 => (s, bl s top c)
  | i + 1 => let u := itr s top c i; let s' := rnd u.1 top c u.2; (s', bl s' (top + 1) c)
/-- all products of a row of takes are small enough -/
def subsOk (s : WS) (top c lo n : Nat) : Prop := ∀ k, k < n → takeOk (subs s top c lo k) (lo + k) ((ent (subs s top c lo k) (lo + k) c).fdiv (ent (subs s top c lo k) top c)) top
theorem bl_mem {s : WS} {lo c at_ : Nat} : at_ ∈ bl s lo c ↔ lo ≤ at_ ∧ at_ < s.r.length ∧ ent s at_ c ≠ 0 := by
  unfold bl
  simp only [List.mem_map, List.mem_filter, List.mem_range, Bool.not_eq_true', decide_eq_false_iff_not]
  constructor
  · rintro ⟨i, ⟨h1, h2⟩, rfl⟩
    exact ⟨by omega, by omega, h2⟩
  · rintro ⟨h1, h2, h3⟩
    refine ⟨at_ - lo, ⟨by omega, ?_⟩, by omega⟩
    rw [show lo + (at_ - lo) = at_ by omega]
    exact h3
theorem bestAt_mem {s : WS} {c : Nat} {l : List Nat} (h : l ≠ []) : bestAt s c l ∈ l := by
  unfold bestAt
  refine mem_getD (Nat.lt_of_le_of_lt (bestI_le _) ?_)
  cases l with
  | nil => exact absurd rfl h
  | cons a r => simp
theorem wf_swapIf {s : WS} {n w top best : Nat} (h : Wf s n w) (ht : top < n) (hb : best < n) : Wf (swapIf s best top) n w := by
  unfold swapIf
  split
  · exact h
  · exact h.swap hb ht
theorem wf_turnIf {s : WS} {n w top c : Nat} (h : Wf s n w) (ht : top < n) : Wf (turnIf s top c) n w := by
  unfold turnIf
  split
  · exact h.turn ht
  · exact h
theorem wf_prep {s : WS} {n w top c best : Nat} (h : Wf s n w) (ht : top < n) (hb : best < n) : Wf (prep s top c best) n w := wf_turnIf (wf_swapIf h ht hb) ht
theorem wf_subs {s : WS} {n w top c lo : Nat} (h : Wf s n w) (ht : top < n) : ∀ k, lo + k ≤ n → Wf (subs s top c lo k) n w
  | 0, _ => h
  | k + 1, hk => (wf_subs h ht k (by omega)).take (by omega) ht
theorem ev_ent {C : Cc} {E : List O} {M : Mem} {s : WS} {n w : Nat} {a b c : Expr} {p1 p2 p3 : Pos} {i j : Nat} (W : Wd C.g) (h : Wf s n w) (hM : M[0]? = some (cel s.r)) (ha : EV C a E M oW M) (hb : EV C b E M (.dat (.int (i : Int))) M) (hc : EV C c E M (.dat (.int (j : Int))) M) (hi : i < n) (hj : j < w)
    (ht : ∀ env, attributeBase a "rows" env (eval a env) = eval a env := by intro _; rfl) (h1 : PlainIx b := by exact fun _ _ => rfl) (h2 : PlainIx c := by exact fun _ _ => rfl) :
    EV C (.Subscript (.Subscript (.Attribute a "rows" p1) b p2) c p3) E M (.dat (.int (ent s i j))) M :=
  EV.ix (EV.ixC (EV.rows W ha ht) hb hM (cel_at (by rw [h.r]; exact hi)) h1) hc (ix_lV (by rw [h.rw _ (mem_getD (by rw [h.r]; exact hi))]; exact hj)) h2
end
end
section
section
variable {C : Cc} {E : List O} {M M1 : Mem} {iter elt c tg : Expr} {ifs : List Expr} {p : Pos} {x : Str} {d : D} {scope : Scope} {own : List (Str × Nat)}
/-- pure elements that look at the cells -/
theorem LC.lPG {n : Nat} {it : Nat → O} {inv : Mem → Prop} {v : Nat → D} {f : Nat → Bool} (ok : blkC C.N C.sc scope own = true) (nd : C.N.Nodup) (hs : EI C tg iter E M n it M1 inv) (hinv : ∀ c, inv (M1 ++ [c])) (hn : n < 100000) (hl : M.length ≤ M1.length) (hok : OkM M M1)
    (step : ∀ i, i < n → ∃ Ex, (∀ M, EGv (C.blk scope) (own.map (·.2)) tg (it i) (wipeE E (own.map (·.2))) M Ex M) ∧ (∀ c, EP (C.blk scope) ifs Ex (M1 ++ [c]) (f i) (M1 ++ [c])) ∧ (f i = true → ∀ c, EV (C.blk scope) elt Ex (M1 ++ [c]) (.dat (v i)) (M1 ++ [c])))
    (hf : ∀ env x, foldedSetIterable iter env x = pure x := by intro _ _; rfl) : LC C elt tg iter ifs scope own E M (.dat (.lst (((List.range n).filter f).map v))) M1 := by
  have key : LC C elt tg iter ifs scope own E M (.adr M1.length) (M1 ++ [some ((((List.range n).filter f).map v).map .dat)]) := by
    refine LC.gen (A := fun i => M1 ++ [some ((((List.range i).filter f).map v).map .dat)]) (acc := fun i => (((List.range i).filter f).map v).map .dat) ok nd hs rfl rfl (fun i _ => hinv _) (fun i hi => ?_) hf
    obtain ⟨Ex, h1, h2, h3⟩ := step i hi
    refine ⟨Ex, _, f i, _, h1 _, h2 _, ?_⟩
    have e0 : (List.range (i + 1)).filter f = (List.range i).filter f ++ if f i = true then [i] else [] := by
      rw [List.range_succ, List.filter_append, List.filter_cons]
      split <;> rfl
    cases hb : f i with
    | true =>
      refine .inl ⟨rfl, .dat (v i), _, h3 hb _, getE_append, ?_, ?_, ?_⟩
      · rw [List.length_map, List.length_map]
        have := List.length_filter_le f (List.range i)
        rw [List.length_range] at this
        omega
      · rw [hb] at e0
        show M1 ++ [some ((((List.range (i + 1)).filter f).map v).map O.dat)] = _
        rw [set_append, e0, List.map_append, List.map_append]
        rfl
      · rw [hb] at e0
        show (((List.range (i + 1)).filter f).map v).map O.dat = _
        rw [e0, List.map_append, List.map_append]
        rfl
    | false =>
      rw [hb] at e0
      have e : (((List.range (i + 1)).filter f).map v).map O.dat = (((List.range i).filter f).map v).map O.dat := by
        rw [e0]
        simp
      refine .inr ⟨rfl, ?_, ?_⟩
      · show M1 ++ [some ((((List.range (i + 1)).filter f).map v).map O.dat)] = _
        rw [e]
      · exact e
  exact LC.froz key fun h => Ev.froz h rfl hl hok
end
section
variable {g : Pg}
def lN (l : List Nat) : D := .lst (l.map fun (k : Nat) => .int (k : Int))
theorem lN_bl {s : WS} {lo c : Nat} : lN (bl s lo c) = .lst (((List.range (s.r.length - lo)).filter fun i => !decide (ent s (lo + i) c = 0)).map fun i => .int (((lo + i : Nat)) : Int)) := by
  unfold lN bl
  rw [List.map_map]
  rfl
def clearOk (s : WS) (n w top c m : Nat) : Prop := Wf s n w ∧ top < n ∧ c < w ∧ (itr s top c m).2 = [] ∧ ∀ i, i < m → (itr s top c i).2 ≠ [] ∧ subsOk (prep (itr s top c i).1 top c (bestAt (itr s top c i).1 c (itr s top c i).2)) top c (top + 1) (n - (top + 1))
def clearR : Rel := fun os M o M' => ∃ (s : WS) (n w top c m : Nat), clearOk s n w top c m ∧ os = [oW, .dat (.int (top : Int)), .dat (.int (c : Int))] ∧ M = wC s ∧ o = .dat .non ∧ M' = wC (itr s top c m).1
theorem itr_mem {s : WS} {top c : Nat} : ∀ i, ∀ a ∈ (itr s top c i).2, top ≤ a ∧ a < (itr s top c i).1.r.length ∧ ent (itr s top c i).1 a c ≠ 0
  | 0, a, h => bl_mem.mp h
  | i + 1, a, h => by
    obtain ⟨h1, h2, h3⟩ := bl_mem.mp h
    exact ⟨by omega, h2, h3⟩
theorem wf_itr {s : WS} {n w top c : Nat} (h : Wf s n w) (ht : top < n) : ∀ i, (∀ j, j < i → (itr s top c j).2 ≠ []) → Wf (itr s top c i).1 n w
  | 0, _ => h
  | i + 1, hj => by
    have ih := wf_itr h ht i fun j hj' => hj j (by omega)
    have hb := itr_mem i _ (bestAt_mem (c := c) (s := (itr s top c i).1) (hj i (by omega)))
    rw [ih.r] at hb
    show Wf (rnd _ top c _) n w
    unfold rnd
    rw [ih.r]
    exact wf_subs (wf_prep ih ht hb.2.1) ht _ (by omega)
/-- the pivot is there -/
theorem ent_swap {s : WS} {n w i j c : Nat} (h : Wf s n w) (hi : i < n) (hj : j < n) : ent (s.swap i j) j c = ent s i c := by
  unfold ent WS.swap swapL
  show (List.getD _ j []).getD c 0 = _
  congr 1
  rw [List.getD_eq_getElem?_getD, List.getElem?_set_self (by rw [List.length_set, h.r]; exact hj)]
  rfl
theorem ent_prep0 {s : WS} {n w top best c : Nat} (h : Wf s n w) (ht : top < n) (hb : best < n) : ent (swapIf s best top) top c = ent s best c := by
  unfold swapIf
  split
  · rename_i e; rw [e]
  · exact ent_swap h hb ht
theorem getD_map_neg {l : List Int} {c : Nat} : (l.map fun x => -x).getD c 0 = -(l.getD c 0) := by
  rw [List.getD_eq_getElem?_getD, List.getD_eq_getElem?_getD, List.getElem?_map]
  cases l[c]? <;> rfl
theorem ent_turn {s : WS} {n w i c : Nat} (h : Wf s n w) (hi : i < n) : ent (s.turn i) i c = -ent s i c := by
  unfold ent WS.turn negL
  show (List.getD _ i []).getD c 0 = _
  rw [← getD_map_neg]
  congr 1
  rw [List.getD_eq_getElem?_getD, List.getElem?_set_self (by rw [h.r]; exact hi)]
  rfl
theorem ent_prep {s : WS} {n w top best c : Nat} (h : Wf s n w) (ht : top < n) (hb : best < n) : ent (prep s top c best) top c = ((ent s best c).natAbs : Int) := by
  unfold prep turnIf
  have e := ent_prep0 (c := c) h ht hb
  split
  · rename_i hn
    rw [ent_turn (wf_swapIf h ht hb) ht]
    omega
  · omega
theorem ent_take {s : WS} {n w i j c a : Nat} {k : Int} (h : Wf s n w) (hi : i < n) (hj : j < n) (ha : a ≠ i) : ent (s.take i k j) a c = ent s a c := by
  unfold ent WS.take takeL
  show (List.getD _ a []).getD c 0 = _
  congr 1
  rw [List.getD_eq_getElem?_getD, List.getElem?_set_ne (fun z => ha z.symm), ← List.getD_eq_getElem?_getD]
theorem ent_subs_top {s : WS} {n w top c lo : Nat} (h : Wf s n w) (ht : top < n) (hlo : top < lo) : ∀ k, lo + k ≤ n → ent (subs s top c lo k) top c = ent s top c
  | 0, _ => rfl
  | k + 1, hk => by
    show ent (sub1 top c _ _) top c = _
    unfold sub1
    rw [ent_take (wf_subs h ht k (by omega)) (by omega) ht (by omega)]
    exact ent_subs_top h ht hlo k (by omega)
theorem range_sub {n lo : Nat} : ((n : Int) - ((lo : Nat) : Int)).toNat = n - lo := by omega
end
section
variable {g : Pg}
abbrev cdC : Option (Value × Str) := some (.ref cA, "clear_column" ++ ".<locals>.")
abbrev CC (g : Pg) (k : Nat) : Cc := mkCd g n_clear_column s_clear_column k cdC
def lamOf : Stmt → Expr
  | .Assign _ (.Call _ _ [⟨_, e, _⟩] _) _ => e
  | _ => .Constant .none 0 ⟨0, 0, 0, 0⟩
theorem clear_top {k : Nat} (W : Wd g) {s : WS} {n w top c lo : Nat} (h : Wf s n w) (hc : c < w) {o3 o4 : O} {st : Stmt} (ht : top < n) (hst : st = (defBody s_clear_column).getD 0 (.Pass ⟨0, 0, 0, 0⟩) ∧ lo = top) :
    ST (CC g k) st [oW, .dat (.int (top : Int)), .dat (.int (c : Int)), o3, o4, .no] (wC s) (.nx [oW, .dat (.int (top : Int)), .dat (.int (c : Int)), .dat (lN (bl s lo c)), o4, .no] (wC s)) := by
  obtain ⟨rfl, rfl⟩ := hst
  rw [lN_bl, h.r, ← range_sub]
  exact ST.to (LC.set 3 (LC.lPG (own := [("at", 5)]) (it := atI0 ((lo : Nat) : Int)) (inv := tt) (v := fun i => .int (((lo + i : Nat)) : Int)) (f := fun i => !decide (ent s (lo + i) c = 0)) (by rfl) c_clear_column.nd (EI.rng2 (EV.nm 1) (EV.to (EV.lenC (EV.rows W (EV.nm 0)) rfl W.b.len) (by rw [cel_len, h.r])) W.b.range (by have := h.n1; omega) (by have := h.n1; omega)) (fun _ => True.intro) (by have := h.n1; omega) (Nat.le_refl _) OkM.refl (fun i hi =>
    have hi' : lo + i < n := by omega
    have e : atI0 ((lo : Nat) : Int) i = .dat (.int ((lo + i : Nat) : Int)) := by
      unfold atI0
      rw [Int.natCast_add]
    ⟨_, fun M => EGv.nm 5 c_clear_column.nd (by simp), fun cc => e ▸ EP.one (ET.cm (ev_ent W h rfl (EV.nm 0) (EV.nm 5) (EV.nm 2) hi' hc) EV.int CS.neI), fun _ cc => e ▸ EV.nm 5⟩)) rfl rfl (fun env he => sw_true (by rw [he]; rfl) (by rw [he]; rfl) (by rfl) (by rfl))) rfl
def wbody : List Stmt := match (defBody s_clear_column).getD 1 (.Pass ⟨0, 0, 0, 0⟩) with
  | .While _ b _ _ => b
  | _ => []
theorem clear_low {k : Nat} (W : Wd g) {s : WS} {n w top c : Nat} (h : Wf s n w) (hc : c < w) {o3 o4 : O} (ht : top < n) :
    ST (CC g k) (wbody.getD 4 (.Pass ⟨0, 0, 0, 0⟩)) [oW, .dat (.int (top : Int)), .dat (.int (c : Int)), o3, o4, .no] (wC s) (.nx [oW, .dat (.int (top : Int)), .dat (.int (c : Int)), .dat (lN (bl s (top + 1) c)), o4, .no] (wC s)) := by
  rw [lN_bl, h.r, ← range_sub]
  exact ST.to (LC.set 3 (LC.lPG (own := [("at", 5)]) (it := atI0 (((top + 1 : Nat)) : Int)) (inv := tt) (v := fun i => .int (((top + 1 + i : Nat)) : Int)) (f := fun i => !decide (ent s (top + 1 + i) c = 0)) (by rfl) c_clear_column.nd (EI.rng2 (i := ((top + 1 : Nat) : Int)) (EV.to (EV.add (i := (top : Int)) (j := 1) (EV.nm 1) EV.int) rfl) (EV.to (EV.lenC (EV.rows W (EV.nm 0)) rfl W.b.len) (by rw [cel_len, h.r])) W.b.range (by have := h.n1; omega) (by have := h.n1; omega)) (fun _ => True.intro) (by have := h.n1; omega) (Nat.le_refl _) OkM.refl (fun i hi =>
    have hi' : top + 1 + i < n := by omega
    have e : atI0 (((top + 1 : Nat)) : Int) i = .dat (.int ((top + 1 + i : Nat) : Int)) := by
      unfold atI0
      rw [Int.natCast_add (top + 1) i]
    ⟨_, fun M => EGv.nm 5 c_clear_column.nd (by simp), fun cc => e ▸ EP.one (ET.cm (ev_ent W h rfl (EV.nm 0) (EV.nm 5) (EV.nm 2) hi' hc) EV.int CS.neI), fun _ cc => e ▸ EV.nm 5⟩)) rfl rfl (fun env he => sw_true (by rw [he]; rfl) (by rw [he]; rfl) (by rfl) (by rfl))) rfl
theorem clear_min {k : Nat} (W : Wd g) {s : WS} {n w top c : Nat} (h : Wf s n w) (hc : c < w) (ht : top < n) {l : List Nat} (hl : l ≠ []) (hln : ∀ a ∈ l, a < n) {o4 : O} :
    ST (CC g (k + 2)) (wbody.getD 0 (.Pass ⟨0, 0, 0, 0⟩)) [oW, .dat (.int (top : Int)), .dat (.int (c : Int)), .dat (lN l), o4, .no] (wC s) (.nx [oW, .dat (.int (top : Int)), .dat (.int (c : Int)), .dat (lN l), .dat (.int (bestAt s c l : Int)), .no] (wC s)) := by
  have hpos : 0 < l.length := by
    cases l with
    | nil => exact absurd rfl hl
    | cons a r => simp
  have hb := bestI_ok (ka := fun j => ((ent s (l.getD j 0) c).natAbs : Int)) (kb := fun j => (l.getD j 0 : Int)) (l.length - 1)
  have hle := bestI_le (ka := fun j => ((ent s (l.getD j 0) c).natAbs : Int)) (kb := fun j => (l.getD j 0 : Int)) (l.length - 1)
  have hlt : bestI (fun j => ((ent s (l.getD j 0) c).natAbs : Int)) (fun j => (l.getD j 0 : Int)) (l.length - 1) < l.length := by omega
  have ln : (l.map fun (k : Nat) => D.int (k : Int)).length = l.length := List.length_map _
  have gt : ∀ (j : Nat) (d : D), (l.map fun (k : Nat) => D.int (k : Int))[j]? = some d → d = .int ((l.getD j 0 : Nat) : Int) ∧ j < l.length := fun j d hd => by
    have hj : j < l.length := by rw [← ln]; exact (List.getElem?_eq_some_iff.mp hd).1
    rw [List.getElem?_map, List.getElem?_eq_getElem hj] at hd
    refine ⟨?_, hj⟩
    rw [List.getD_eq_getElem?_getD, List.getElem?_eq_getElem hj]
    exact (Option.some.inj hd).symm
  refine ST.set 4 (EV.minKey (ds := l.map fun (k : Nat) => .int (k : Int)) (q := "clear_column" ++ ".<locals>.") (cA := cA) (P := pA) (N := ["at", "work", "column"]) (fr := ["work", "column"]) (pn := "at") (js := [0, 2]) (cs := [oW, .dat (.int (c : Int))]) (k := k) (ka := fun j => ((ent s (l.getD j 0) c).natAbs : Int)) (kb := fun j => (l.getD j 0 : Int))
    (EV.nm 3) rfl W.l_clear_column.tb ?_ ?_ (NdefX.nscope_by (by decide +kernel)) (show NdefX.ndefB (defScope s_clear_column) _ _ = true by decide +kernel) (fun _ _ _ _ _ _ => rfl) rfl rfl (Nat.le_refl _) (fun j d hd => ?_) (by rw [ln, show l.length = l.length - 1 + 1 by omega]; exact hb) ?_ W.b.min) c_clear_column.nd
  · exact List.mem_singleton.mpr (by rfl)
  · intro p hp _
    rw [List.mem_singleton.mp hp]
    rfl
  · obtain ⟨rfl, hj⟩ := gt j d hd
    exact EV.tup (ds := [.int ((ent s (l.getD j 0) c).natAbs : Int), .int ((l.getD j 0 : Nat) : Int)]) (EA.cons (EV.abs (ev_ent W h rfl (EV.nm 1) (EV.nm 0) (EV.nm 2) (hln _ (mem_getD hj)) hc) W.b.abs) (EA.cons (EV.nm 0) EA.nil)) (by simp)
  · rw [List.getElem?_map]
    unfold bestAt
    rw [List.getD_eq_getElem?_getD, List.getElem?_eq_getElem hlt]
    rfl
theorem clear_swap {k : Nat} (W : Wd g) {s : WS} {n w top c best : Nat} (h : Wf s n w) (ht : top < n) (hb : best < n) {o3 : O} (hk : Nat.ble 1 k = true) :
    ST (CC g k) (wbody.getD 1 (.Pass ⟨0, 0, 0, 0⟩)) [oW, .dat (.int (top : Int)), .dat (.int (c : Int)), o3, .dat (.int (best : Int)), .no] (wC s) (.nx [oW, .dat (.int (top : Int)), .dat (.int (c : Int)), o3, .dat (.int (best : Int)), .no] (wC (swapIf s best top))) := by
  by_cases e : best = top
  · refine ST.no (ET.to (ET.cm (EV.nm 4) (EV.nm 1) CS.neI) (by simp [e])) ?_
    unfold swapIf
    rw [if_pos e]
    exact SB.nil
  · refine ST.yes (ET.to (ET.cm (EV.nm 4) (EV.nm 1) CS.neI) (by simp; omega)) ?_
    unfold swapIf
    rw [if_neg e]
    exact SB.one (ST.exp (EV.methW (ds := [.int (best : Int), .int (top : Int)]) (ok_swap W) (EV.nm 0) (EA.cons (EV.nm 4) (EA.cons (EV.nm 1) EA.nil)) W.cls_Work ⟨s, best, top, by rw [h.r]; exact hb, by rw [h.r]; exact ht, by rw [h.r, h.t], by rw [h.r, h.b], rfl, rfl, rfl, rfl⟩ rfl hk))
theorem clear_turn {k : Nat} (W : Wd g) {s : WS} {n w top c : Nat} (h : Wf s n w) (ht : top < n) (hc : c < w) {o3 o4 : O} (hk : Nat.ble 1 k = true) :
    ST (CC g k) (wbody.getD 2 (.Pass ⟨0, 0, 0, 0⟩)) [oW, .dat (.int (top : Int)), .dat (.int (c : Int)), o3, o4, .no] (wC s) (.nx [oW, .dat (.int (top : Int)), .dat (.int (c : Int)), o3, o4, .no] (wC (turnIf s top c))) := by
  by_cases e : ent s top c < 0
  · refine ST.yes (ET.to (ET.cm (ev_ent W h rfl (EV.nm 0) (EV.nm 1) (EV.nm 2) ht hc) EV.int CS.ltI) (decide_eq_true e)) ?_
    unfold turnIf
    rw [if_pos e]
    exact SB.one (ST.exp (EV.methW (ds := [.int (top : Int)]) (ok_turn W) (EV.nm 0) (EA.cons (EV.nm 1) EA.nil) W.cls_Work ⟨s, top, by rw [h.r]; exact ht, by rw [h.r, h.t], by rw [h.r, h.b], h.small, rfl, rfl, rfl, rfl⟩ rfl hk))
  · refine ST.no (ET.to (ET.cm (ev_ent W h rfl (EV.nm 0) (EV.nm 1) (EV.nm 2) ht hc) EV.int CS.ltI) (decide_eq_false e)) ?_
    unfold turnIf
    rw [if_neg e]
    exact SB.nil
theorem clear_subs {k : Nat} (W : Wd g) {s : WS} {n w top c : Nat} (h : Wf s n w) (ht : top < n) (hc : c < w) {o3 o4 : O} (hp : ent s top c ≠ 0) (ok : subsOk s top c (top + 1) (n - (top + 1))) (hk : Nat.ble 32 k = true) (hk2 : Nat.ble 2 k = true) :
    ST (CC g k) (wbody.getD 3 (.Pass ⟨0, 0, 0, 0⟩)) [oW, .dat (.int (top : Int)), .dat (.int (c : Int)), o3, o4, .no] (wC s) (.nx [oW, .dat (.int (top : Int)), .dat (.int (c : Int)), o3, o4, .no] (wC (subs s top c (top + 1) (n - (top + 1))))) := by
  rw [← range_sub]
  refine ST.forN 5 (E_ := fun _ => [oW, .dat (.int (top : Int)), .dat (.int (c : Int)), o3, o4, .no]) (M_ := fun i => wC (subs s top c (top + 1) i)) (EI.rng2 (i := ((top + 1 : Nat) : Int)) (EV.to (EV.add (i := (top : Int)) (j := 1) (EV.nm 1) EV.int) rfl) (EV.to (EV.lenC (EV.rows W (EV.nm 0)) rfl W.b.len) (by rw [cel_len, h.r])) W.b.range (by have := h.n1; omega) (by have := h.n1; omega)) Fg.refl rfl (fun _ _ => True.intro) c_clear_column.nd (fun i hi => ?_)
  have hi' : top + 1 + i < n := by omega
  have hw := wf_subs (c := c) (lo := top + 1) h ht i (by omega)
  have et := ent_subs_top (c := c) (lo := top + 1) h ht (by omega) i (by omega)
  have e : atI0 (((top + 1 : Nat)) : Int) i = .dat (.int ((top + 1 + i : Nat) : Int)) := by
    unfold atI0
    rw [Int.natCast_add (top + 1) i]
  rw [e]
  refine ⟨[oW, .dat (.int (top : Int)), .dat (.int (c : Int)), o3, o4, .dat (.int ((top + 1 + i : Nat) : Int))], Fg.cons (Fg.cons (Fg.cons (Fg.cons (Fg.cons (Fg.no Fg.nil))))), ?_⟩
  exact SB.one (ST.exp (EV.methW (ds := [.int ((top + 1 + i : Nat) : Int), .int _, .int (top : Int)]) (ok_take W) (EV.nm 0) (EA.cons (EV.nm 5) (EA.cons (EV.bin (ev_ent W hw rfl (EV.nm 0) (EV.nm 5) (EV.nm 2) hi' hc) (ev_ent W hw rfl (EV.nm 0) (EV.nm 1) (EV.nm 2) ht hc) (BS.fdivX W.seer W.tree (by rw [et]; exact hp) hk)) (EA.cons (EV.nm 1) EA.nil))) W.cls_Work
    ⟨_, top + 1 + i, _, top, by rw [hw.r]; exact hi', by rw [hw.r]; exact ht, by rw [hw.r, hw.t], by rw [hw.r, hw.b], hw.small, ok i (by omega), rfl, rfl, rfl, rfl⟩ rfl hk2))
theorem ok_clear (W : Wd g) : FN g "clear_column" 33 clearR := by
  refine FN.mkC W.l_clear_column c_clear_column (fun _ _ _ _ _ _ us hl => match us, hl with | [_, _, _], _ => rfl) (fun os M o M' h => ?_) (fun os M o M' h => ?_)
  · obtain ⟨_, _, _, _, _, _, _, rfl, _⟩ := h
    rfl
  obtain ⟨s, n, w, top, c, m, ⟨hw, ht, hc, hm, hi⟩, rfl, rfl, rfl, rfl⟩ := h
  refine ⟨Nat.le_refl _, True.intro, lowW, .inr ⟨rfl, [oW, .dat (.int (top : Int)), .dat (.int (c : Int)), .dat (lN (itr s top c m).2), .no, .no], [], ?_⟩⟩
  refine SB.cons (clear_top W hw hc ht ⟨rfl, rfl⟩) (SB.one ?_)
  refine ST.while (E_ := fun i => [oW, .dat (.int (top : Int)), .dat (.int (c : Int)), .dat (lN (itr s top c i).2), .no, .no]) (M_ := fun i => wC (itr s top c i).1) (m := m) Fg.refl rfl (fun i him => ?_) ?_
  · obtain ⟨hne, ok⟩ := hi i him
    have hwi := wf_itr hw ht i fun j hj => (hi j (by omega)).1
    have hb := itr_mem i _ (bestAt_mem (c := c) (s := (itr s top c i).1) hne)
    rw [hwi.r] at hb
    have hlen : 0 < ((itr s top c i).2.length : Nat) := by
      cases h : (itr s top c i).2 with
      | nil => exact absurd h hne
      | cons a r => simp
    have hln : lenD (lN (itr s top c i).2) = some (itr s top c i).2.length := by
      show some (List.map _ _).length = _
      rw [List.length_map]
    have hwp := wf_prep (c := c) hwi ht hb.2.1
    refine ⟨wC (itr s top c i).1, [oW, .dat (.int (top : Int)), .dat (.int (c : Int)), .dat (lN (itr s top c (i + 1)).2), .dat (.int (bestAt (itr s top c i).1 c (itr s top c i).2 : Int)), .no], ET.to (ET.cm (EV.len (EV.nm 3) hln W.b.len) EV.int CS.gtI) (decide_eq_true (by omega)), Fg.cons (Fg.cons (Fg.cons (Fg.cons (Fg.no (Fg.cons Fg.nil))))), ?_⟩
    refine SB.cons (clear_min W hwi hc ht hne (fun a ha => by have := itr_mem i a ha; rw [hwi.r] at this; exact this.2.1)) (SB.cons (clear_swap W hwi ht hb.2.1 (by rfl)) (SB.cons (clear_turn W (wf_swapIf hwi ht hb.2.1) ht hc (by rfl)) ?_))
    have hp : ent (prep (itr s top c i).1 top c (bestAt (itr s top c i).1 c (itr s top c i).2)) top c ≠ 0 := by
      rw [ent_prep hwi ht hb.2.1]
      have := hb.2.2
      omega
    have eS : subs (prep (itr s top c i).1 top c (bestAt (itr s top c i).1 c (itr s top c i).2)) top c (top + 1) (n - (top + 1)) = (itr s top c (i + 1)).1 := by
      show _ = rnd _ top c _
      unfold rnd
      rw [hwi.r]
    have hS := clear_subs (k := 32) (o3 := .dat (lN (itr s top c i).2)) (o4 := .dat (.int (bestAt (itr s top c i).1 c (itr s top c i).2 : Int))) W hwp ht hc hp ok (by rfl) (by rfl)
    rw [eS] at hS
    refine SB.cons hS (SB.one ?_)
    have hw' := wf_itr hw ht (i + 1) fun j hj => (hi j (by omega)).1
    exact clear_low W hw' hc ht
  · have hln : lenD (lN (itr s top c m).2) = some 0 := by rw [hm]; rfl
    exact ET.to (ET.cm (EV.len (EV.nm 3) hln W.b.len) EV.int CS.gtI) (by decide)
end
end
section
section
theorem ST.augI {C : Cc} {E : List O} {M M' : Mem} {e : Expr} {p pos : Pos} {a b : Int} (i : Nat) {x : Str} (hE : E[i]? = some (.dat (.int a))) (h : EV C e E M (.dat (.int b)) M') (nd : C.N.Nodup) (hi : C.N[i]? = some x := by rfl) (hx : Loc C.sc x := by first | exact Or.inl rfl | exact Or.inr rfl)
    (hf : C.fn x = true ∨ C.sc.names.lookup x = some .local := by first | exact .inl rfl | exact .inr rfl) : ST C (.AugAssign (.Name x p) .Add e pos) E M (.nx (E.set i (.dat (.int (a + b)))) M') :=
  ST.mk (fun X hX => ps_aug (by rw [hX.N]; exact nd) (by rw [hX.N]; exact hi) (by rw [hX.sc]; exact hx) (ue hX e) ip_add (hf.elim (fun z => .inl (hX.fn x z)) (fun z => .inr (by rw [hX.sc]; exact z)))) fun I H adr σ D s q => by
    have hl : i < σ.length := by
      rw [← s.len]
      exact (List.getElem?_eq_some_iff.mp hE).1
    have h2 : σ[i]? = some σ[i] := List.getElem?_eq_getElem hl
    have h3 := s.slot i _ _ hE h2
    obtain ⟨v, hv⟩ : ∃ v, σ[i] = some v := by
      cases hv : σ[i] with
      | none =>
        rw [hv] at h3
        cases h3
      | some v => exact ⟨v, rfl⟩
    rw [hv] at h3 h2
    cases (show Rep I (.int a) v from h3)
    refine ⟨_, h2, h I H adr σ _ s fun w I1 H1 adr1 s1 g1 v1 => ?_⟩
    cases (show Rep I1 (.int b) w from v1)
    exact ⟨a, b, rfl, rfl, q I1 H1 adr1 _ (s1.set (o := .dat (.int (a + b))) (.int _)) g1⟩
end
section
variable {g : Pg}
/-- one column: m rounds -/
def colStep (u : WS × Nat) (n c m : Nat) : WS × Nat := if u.2 < n then (let s1 := (itr u.1 u.2 c m).1; if ent s1 u.2 c ≠ 0 then (subs s1 u.2 c 0 u.2, u.2 + 1) else (s1, u.2)) else u
def hw (a : List (List Int)) (mm : Nat → Nat) : Nat → WS × Nat
  | 0 => (wsOf a, 0)
  | c + 1 => colStep (hw a mm c) a.length c (mm c)
def hwOk (a : List (List Int)) (w : Nat) (mm : Nat → Nat) : Prop := ∀ c, c < w → (hw a mm c).2 < a.length → clearOk (hw a mm c).1 a.length w (hw a mm c).2 c (mm c) ∧
  (ent (itr (hw a mm c).1 (hw a mm c).2 c (mm c)).1 (hw a mm c).2 c ≠ 0 → subsOk (itr (hw a mm c).1 (hw a mm c).2 c (mm c)).1 (hw a mm c).2 c 0 (hw a mm c).2)
theorem ent_subs_top0 {s : WS} {n w top c : Nat} (h : Wf s n w) (ht : top < n) : ∀ k, k ≤ top → ent (subs s top c 0 k) top c = ent s top c
  | 0, _ => rfl
  | k + 1, hk => by
    show ent (sub1 top c _ _) top c = _
    unfold sub1
    rw [ent_take (wf_subs h ht k (by omega)) (by omega) ht (by omega)]
    exact ent_subs_top0 h ht k (by omega)
theorem wf_of {a : List (List Int)} (h : Mx a) : Wf (wsOf a) a.length (wd a) := by
  have hu : ∀ q ∈ unitM a.length, q.length = a.length := fun q hq => by
    obtain ⟨i, _, rfl⟩ := List.mem_map.mp hq
    rw [List.length_map, List.length_range]
  exact ⟨rfl, unit_len, unit_len, h.rect, hu, hu, h.l1, by have := h.l8; omega, by have := h.w8; omega⟩
theorem wf_col {s : WS} {n w top c m : Nat} (h : Wf s n w) (ho : top < n → clearOk s n w top c m) : Wf (colStep (s, top) n c m).1 n w := by
  unfold colStep
  split
  · rename_i ht
    obtain ⟨_, _, hc, hm, hi⟩ := ho ht
    have h1 : Wf (itr s top c m).1 n w := wf_itr h ht m fun j hj => (hi j hj).1
    show Wf (if ent (itr s top c m).1 top c ≠ 0 then _ else _ : WS × Nat).1 n w
    split
    · exact wf_subs h1 ht top (by show 0 + top ≤ n; have : top < n := ht; omega)
    · exact h1
  · exact h
theorem wf_hw {a : List (List Int)} {mm : Nat → Nat} (h : Mx a) (ok : hwOk a (wd a) mm) : ∀ c, c ≤ wd a → Wf (hw a mm c).1 a.length (wd a)
  | 0, _ => wf_of h
  | c + 1, hc => wf_col (s := (hw a mm c).1) (top := (hw a mm c).2) (wf_hw h ok c (by omega)) fun ht => (ok c (by omega) ht).1
theorem top_hw {a : List (List Int)} {mm : Nat → Nat} : ∀ c, (hw a mm c).2 ≤ a.length
  | 0 => Nat.zero_le _
  | c + 1 => by
    have ih := top_hw (a := a) (mm := mm) c
    show (colStep (hw a mm c) a.length c (mm c)).2 ≤ _
    unfold colStep
    split
    · show (if _ ≠ _ then _ else _ : WS × Nat).2 ≤ _
      split
      · show (hw a mm c).2 + 1 ≤ _
        omega
      · exact ih
    · exact ih
def hwaysR (d r : D) : Prop := ∃ a mm, Mx a ∧ hwOk a (wd a) mm ∧ d = tM a ∧ r = .tup [tM (hw a mm (wd a)).1.r, tM (hw a mm (wd a)).1.t, tM (flip (hw a mm (wd a)).1.b)]
theorem ok_hermite_ways (W : Wd g) : FN g "hermite_ways" 34 (P1 hwaysR) := by
  refine FN.mk2x W.t_hermite_ways c_hermite_ways (fun _ _ _ _ _ _ us hl => match us, hl with | [_], _ => rfl) (fun os M o M' h => ?_) (fun os M o M' h => ?_)
  · obtain ⟨d, r, rfl, _⟩ := h
    rfl
  obtain ⟨d, r, rfl, rfl, rfl, rfl, a, mm, hM, ok, rfl, rfl⟩ := h
  refine ⟨Nat.le_refl _, True.intro, LowM.nil, .inl ⟨wC (hw a mm (wd a)).1, ?_⟩⟩
  have n8 := hM.l8
  have w8 := hM.w8
  have E0 : SB (mkCd g n_hermite_ways s_hermite_ways 33 none) (defBody s_hermite_ways) (pad n_hermite_ways [.dat (tM a)]) [] (.rt (.dat (.tup [tM (hw a mm (wd a)).1.r, tM (hw a mm (wd a)).1.t, tM (flip (hw a mm (wd a)).1.b)])) (wC (hw a mm (wd a)).1)) := by
    refine SB.cons (E1 := [.dat (tM a), oW, .no, .no, .no, .no]) (M1 := wC (wsOf a)) (ST.to (ST.set 1 (EV.make (ι := []) (ok_Work W) (EA.cons (EV.nm 0) EA.nil) ⟨a, by omega, rfl, rfl, rfl, rfl⟩ rfl mixWn) c_hermite_ways.nd) rfl) ?_
    refine SB.cons (E1 := [.dat (tM a), oW, .dat (.int 0), .no, .no, .no]) (M1 := wC (wsOf a)) (ST.set 2 EV.int c_hermite_ways.nd) ?_
    refine SB.cons (E1 := [.dat (tM a), oW, .dat (.int ((hw a mm (wd a)).2 : Int)), .no, .no, .no]) (M1 := wC (hw a mm (wd a)).1) (ST.forN 3 (n := wd a) (E_ := fun c => [.dat (tM a), oW, .dat (.int ((hw a mm c).2 : Int)), .no, .no, .no]) (M_ := fun c => wC (hw a mm c).1)
      (EI.rng1 (j := (wd a : Int)) (EV.len (EV.ix (EV.nm 0) EV.int (ix_tM0 hM.ne)) len_tV W.b.len) W.b.range (by omega)) Fg.refl rfl (fun _ _ => True.intro) c_hermite_ways.nd (fun c hc => ?_)) ?_
    · have e : atI0 0 c = .dat (.int (c : Int)) := by
        unfold atI0
        rw [Int.zero_add]
      rw [e]
      have hw0 := wf_hw hM ok c (by omega)
      have hle : lenD (tM a) = some a.length := len_tM
      by_cases ht : (hw a mm c).2 < a.length
      · obtain ⟨hc1, hc2⟩ := ok c hc ht
        have hc3 := hc1
        obtain ⟨_, _, hcw, hm, hi⟩ := hc3
        have hw1 : Wf (itr (hw a mm c).1 (hw a mm c).2 c (mm c)).1 a.length (wd a) := wf_itr hw0 ht (mm c) fun j hj => (hi j hj).1
        have e1 : hw a mm (c + 1) = (if ent (itr (hw a mm c).1 (hw a mm c).2 c (mm c)).1 (hw a mm c).2 c ≠ 0 then (subs (itr (hw a mm c).1 (hw a mm c).2 c (mm c)).1 (hw a mm c).2 c 0 (hw a mm c).2, (hw a mm c).2 + 1) else ((itr (hw a mm c).1 (hw a mm c).2 c (mm c)).1, (hw a mm c).2)) := by
          show colStep (hw a mm c) a.length c (mm c) = _
          unfold colStep
          rw [if_pos ht]
        generalize hs1 : (itr (hw a mm c).1 (hw a mm c).2 c (mm c)).1 = s1 at hc2 hw1 e1
        generalize hp : ent s1 (hw a mm c).2 c = pv at e1 hc2
        refine ⟨[.dat (tM a), oW, .dat (.int ((hw a mm (c + 1)).2 : Int)), .dat (.int (c : Int)), .dat (.int pv), .no], Fg.cons (Fg.cons (Fg.cons (Fg.no (Fg.no (Fg.cons Fg.nil))))), SB.one ?_⟩
        refine ST.yes (ET.to (ET.cm (EV.nm 2) (EV.len (EV.nm 0) hle W.b.len) CS.ltI) (decide_eq_true (by omega))) ?_
        refine SB.cons (E1 := [.dat (tM a), oW, .dat (.int ((hw a mm c).2 : Int)), .dat (.int (c : Int)), .no, .no]) (M1 := wC s1) (ST.exp (EV.callW (ds := [.int ((hw a mm c).2 : Int), .int (c : Int)]) (d := .non) (s := (hw a mm c).1) (s' := s1) (ok_clear W) (EA.cons (EV.nm 1) (EA.cons (EV.nm 2) (EA.cons (EV.nm 3) EA.nil))) ⟨_, _, _, _, _, _, hc1, rfl, rfl, rfl, by rw [hs1]⟩)) ?_
        refine SB.cons (E1 := [.dat (tM a), oW, .dat (.int ((hw a mm c).2 : Int)), .dat (.int (c : Int)), .dat (.int pv), .no]) (M1 := wC s1) (ST.set 4 (EV.to (ev_ent W hw1 rfl (EV.nm 1) (EV.nm 2) (EV.nm 3) ht hcw) (by rw [hp])) c_hermite_ways.nd) (SB.one ?_)
        by_cases hz : pv = 0
        · rw [if_neg (fun z => z hz)] at e1
          rw [e1]
          exact ST.no (ET.to (ET.cm (EV.nm 4) EV.int CS.neI) (by simp [hz])) SB.nil
        · rw [if_pos hz] at e1
          rw [e1]
          refine ST.yes (ET.to (ET.cm (EV.nm 4) EV.int CS.neI) (by simp [hz])) ?_
          refine SB.cons (E1 := [.dat (tM a), oW, .dat (.int ((hw a mm c).2 : Int)), .dat (.int (c : Int)), .dat (.int pv), .no]) (M1 := wC (subs s1 (hw a mm c).2 c 0 (hw a mm c).2)) (ST.forN 5 (n := (hw a mm c).2) (E_ := fun _ => [.dat (tM a), oW, .dat (.int ((hw a mm c).2 : Int)), .dat (.int (c : Int)), .dat (.int pv), .no]) (M_ := fun k => wC (subs s1 (hw a mm c).2 c 0 k)) (EI.rng1 (j := ((hw a mm c).2 : Int)) (EV.nm 2) W.b.range (by omega)) Fg.refl rfl (fun _ _ => True.intro) c_hermite_ways.nd (fun k hk => ?_)) (SB.one (ST.to (ST.augI (a := ((hw a mm c).2 : Int)) (b := 1) 2 rfl EV.int c_hermite_ways.nd) rfl))
          have e : atI0 0 k = .dat (.int (k : Int)) := by
            unfold atI0
            rw [Int.zero_add]
          rw [e]
          have hk' : k < (hw a mm c).2 := hk
          have hwk := wf_subs (c := c) (lo := 0) hw1 ht k (by omega)
          have etk := ent_subs_top0 (c := c) hw1 ht k (by omega)
          have okk := hc2 hz k hk'
          rw [etk, hp, Nat.zero_add] at okk
          refine ⟨[.dat (tM a), oW, .dat (.int ((hw a mm c).2 : Int)), .dat (.int (c : Int)), .dat (.int pv), .dat (.int (k : Int))], Fg.cons (Fg.cons (Fg.cons (Fg.cons (Fg.cons (Fg.no Fg.nil))))), ?_⟩
          refine SB.one (ST.exp (EV.methW (ds := [.int (k : Int), .int _, .int ((hw a mm c).2 : Int)]) (d := .non) (s' := subs s1 (hw a mm c).2 c 0 (k + 1)) (ok_take W) (EV.nm 1) (EA.cons (EV.nm 5) (EA.cons (EV.bin (ev_ent W hwk rfl (EV.nm 1) (EV.nm 5) (EV.nm 3) (by omega) hcw) (EV.nm 4) (BS.fdivX W.seer W.tree hz)) (EA.cons (EV.nm 2) EA.nil))) W.cls_Work
            ⟨_, k, _, (hw a mm c).2, by rw [hwk.r]; omega, by rw [hwk.r]; exact ht, by rw [hwk.r, hwk.t], by rw [hwk.r, hwk.b], hwk.small, okk, rfl, rfl, rfl, ?_⟩))
          show wC (sub1 _ _ _ _) = _
          unfold sub1
          rw [etk, hp, Nat.zero_add]
      · have e1 : hw a mm (c + 1) = hw a mm c := by
          show colStep (hw a mm c) a.length c (mm c) = _
          unfold colStep
          rw [if_neg ht]
        rw [e1]
        exact ⟨[.dat (tM a), oW, .dat (.int ((hw a mm c).2 : Int)), .dat (.int (c : Int)), .no, .no], Fg.cons (Fg.cons (Fg.cons (Fg.no (Fg.cons (Fg.cons Fg.nil))))), SB.one (ST.no (ET.to (ET.cm (EV.nm 2) (EV.len (EV.nm 0) hle W.b.len) CS.ltI) (decide_eq_false (by omega))) SB.nil)⟩
    · have hwe := wf_hw hM ok (wd a) (Nat.le_refl _)
      have hbne : (hw a mm (wd a)).1.b ≠ [] := fun z => by
        have := hwe.b
        rw [z] at this
        have := hwe.n0
        simp at *
        omega
      have hwdb : wd (hw a mm (wd a)).1.b = a.length := by
        have hbw := hwe.bw
        generalize (hw a mm (wd a)).1.b = bb at hbne hbw
        cases bb with
        | nil => exact absurd rfl hbne
        | cons q r => exact hbw q List.mem_cons_self
      exact SB.one (ST.ret (methW0 (ok_ways W) (EV.nm 1) W.cls_Work ⟨_, by rw [hwe.r]; omega, by rw [hwe.t]; omega, by rw [hwe.b]; omega, hbne, fun q hq => by rw [hwdb]; exact hwe.bw q hq, by rw [hwdb]; omega, rfl, rfl, rfl, rfl⟩))
  exact E0
end
/-! ### numbers stay small enough -/
section
theorem bits_le2 {i : Int} {a : Nat} (h : i.natAbs ≤ 2 ^ a) : Builtin.Int.intBits i ≤ a + 1 := by
  unfold Builtin.Int.intBits
  split
  · omega
  · rename_i hi
    have h0 : i.natAbs ≠ 0 := fun z => by
      have : i = 0 := Int.natAbs_eq_zero.mp z
      rw [this] at hi
      exact hi rfl
    have := (Nat.log2_lt h0).mpr (Nat.lt_of_le_of_lt h (Nat.pow_lt_pow_right (by omega) (Nat.lt_succ_self a)))
    omega
theorem mulOk_bits {i j : Int} {a b : Nat} (h1 : i.natAbs ≤ 2 ^ a) (h2 : j.natAbs ≤ 2 ^ b) (h : a + b + 2 ≤ 134217728) : IntMulOk i j := by
  have e1 := bits_le2 h1
  have e2 := bits_le2 h2
  unfold IntMulOk
  have : Builtin.Int.intTooBig ((Builtin.Int.intBits i : Nat) + (Builtin.Int.intBits j : Nat) : Int) = false := by
    unfold Builtin.Int.intTooBig
    refine decide_eq_false ?_
    show ¬ (((Builtin.Int.intBits i : Nat) : Int) + (Builtin.Int.intBits j : Nat) > ((2 ^ 27 : Nat) : Int))
    have : (2 ^ 27 : Nat) = 134217728 := by decide
    omega
  rw [this, Bool.and_false]
  exact Bool.false_ne_true
/-- the number at a place of a list of rows, 0 where there is none -/
def gE (l : List (List Int)) (i j : Nat) : Int := (l.getD i []).getD j 0
theorem ent_gE {s : WS} {i j : Nat} : ent s i j = gE s.r i j := rfl
theorem gE_set {l : List (List Int)} {i a j : Nat} {v : List Int} (h : i < l.length) : gE (l.set i v) a j = if a = i then v.getD j 0 else gE l a j := by
  unfold gE
  by_cases e : a = i
  · subst e
    rw [if_pos rfl, List.getD_eq_getElem?_getD (l := l.set a v), List.getElem?_set_self h]
    rfl
  · rw [if_neg e, List.getD_eq_getElem?_getD (l := l.set i v), List.getElem?_set_ne (fun z => e z.symm), ← List.getD_eq_getElem?_getD]
theorem lessV_getD {v w : List Int} {k : Int} {j : Nat} (h : v.length = w.length) : (lessV v k w).getD j 0 = v.getD j 0 - k * w.getD j 0 := by
  unfold lessV
  simp only [List.getD_eq_getElem?_getD, List.getElem?_map]
  by_cases hj : j < v.length
  · have hj' : j < (v.zip w).length := by rw [List.length_zip]; omega
    rw [List.getElem?_eq_getElem hj', List.getElem?_eq_getElem hj, List.getElem?_eq_getElem (show j < w.length by omega), List.getElem_zip]
    rfl
  · rw [List.getElem?_eq_none (by rw [List.length_zip]; omega), List.getElem?_eq_none (by omega), List.getElem?_eq_none (by omega)]
    simp
theorem gE_take {l : List (List Int)} {i j a b u : Nat} {k : Int} (hi : i < l.length) (hj : j < l.length) (hu : ∀ q ∈ l, q.length = u) : gE (takeL l i k j) a b = if a = i then gE l i b - k * gE l j b else gE l a b := by
  unfold takeL
  rw [gE_set hi, lessV_getD (by rw [hu _ (mem_getD hi), hu _ (mem_getD hj)])]
  rfl
theorem gE_neg {l : List (List Int)} {i a b : Nat} (hi : i < l.length) : gE (negL l i) a b = if a = i then - gE l i b else gE l a b := by
  unfold negL
  rw [gE_set hi, getD_map_neg]
  rfl
theorem gE_swap {l : List (List Int)} {i j a b : Nat} (hi : i < l.length) (hj : j < l.length) : gE (swapL l i j) a b = if a = j then gE l i b else if a = i then gE l j b else gE l a b := by
  unfold swapL
  rw [gE_set (by rw [List.length_set]; exact hj), gE_set hi]
  rfl
theorem gE_all {l : List (List Int)} {i : Nat} {P : Int → Prop} (h : ∀ j, P (gE l i j)) : ∀ y ∈ l.getD i [], P y := fun y hy => by
  obtain ⟨j, hj, e⟩ := List.getElem_of_mem hy
  have := h j
  unfold gE at this
  rw [List.getD_eq_getElem?_getD (l := l.getD i []), List.getElem?_eq_getElem hj, e] at this
  exact this
theorem ent_take' {s : WS} {n w i j a b : Nat} {k : Int} (h : Wf s n w) (hi : i < n) (hj : j < n) : ent (s.take i k j) a b = if a = i then ent s i b - k * ent s j b else ent s a b := gE_take (by rw [h.r]; exact hi) (by rw [h.r]; exact hj) h.rw
/-- the takes of a row of places, at once -/
theorem ent_subs {s : WS} {n w top c lo : Nat} (h : Wf s n w) (ht : top < n) : ∀ k, lo + k ≤ n → (top < lo ∨ lo + k ≤ top) → ∀ a b, ent (subs s top c lo k) a b = if lo ≤ a ∧ a < lo + k then ent s a b - (ent s a c).fdiv (ent s top c) * ent s top b else ent s a b
  | 0, _, _, a, b => by
    rw [if_neg (by omega)]
    rfl
  | k + 1, hk, hd, a, b => by
    have ih := ent_subs (c := c) (lo := lo) h ht k (by omega) (by omega)
    have hw := wf_subs (c := c) (lo := lo) h ht k (by omega)
    show ent (sub1 top c _ _) a b = _
    unfold sub1
    rw [ent_take' hw (by omega) ht]
    have e1 : ∀ b, ent (subs s top c lo k) (lo + k) b = ent s (lo + k) b := fun b => by rw [ih, if_neg (by omega)]
    have e2 : ∀ b, ent (subs s top c lo k) top b = ent s top b := fun b => by rw [ih, if_neg (by omega)]
    rw [e1, e1, e2, e2]
    by_cases ha : a = lo + k
    · subst ha
      rw [if_pos rfl, if_pos (by omega)]
    · rw [if_neg ha, ih]
      by_cases hb : lo ≤ a ∧ a < lo + k
      · rw [if_pos hb, if_pos (by omega)]
      · rw [if_neg hb, if_neg (by omega)]
def ZB (s : WS) (Z : Nat) : Prop := ∀ i j, (gE s.t i j).natAbs ≤ Z ∧ (gE s.b i j).natAbs ≤ Z
theorem abs_less {x y k : Int} {Z f : Nat} (hx : x.natAbs ≤ Z) (hy : y.natAbs ≤ Z) (hk : k.natAbs + 1 ≤ f) : (x - k * y).natAbs ≤ Z * f := by
  have h1 : (x - k * y).natAbs ≤ x.natAbs + (k * y).natAbs := by omega
  rw [Int.natAbs_mul] at h1
  have h2 : k.natAbs * y.natAbs ≤ k.natAbs * Z := Nat.mul_le_mul_left _ hy
  have h3 : Z * (k.natAbs + 1) ≤ Z * f := Nat.mul_le_mul_left _ hk
  rw [Nat.mul_add, Nat.mul_one, Nat.mul_comm Z] at h3
  omega
theorem ZB.mono {s : WS} {Z Z' : Nat} (h : ZB s Z) (hz : Z ≤ Z') : ZB s Z' := fun i j => ⟨Nat.le_trans (h i j).1 hz, Nat.le_trans (h i j).2 hz⟩
theorem ZB.take {s : WS} {n w i j Z f : Nat} {k : Int} (h : Wf s n w) (z : ZB s Z) (hi : i < n) (hj : j < n) (hk : k.natAbs + 1 ≤ f) : ZB (s.take i k j) (Z * f) := fun a b => by
  have hf : Z ≤ Z * f := Nat.le_mul_of_pos_right _ (by omega)
  refine ⟨?_, ?_⟩
  · show (gE (takeL s.t i k j) a b).natAbs ≤ _
    rw [gE_take (by rw [h.t]; exact hi) (by rw [h.t]; exact hj) h.tw]
    split
    · exact abs_less (z i b).1 (z j b).1 hk
    · exact Nat.le_trans (z a b).1 hf
  · show (gE (takeL s.b j (-k) i) a b).natAbs ≤ _
    rw [gE_take (by rw [h.b]; exact hj) (by rw [h.b]; exact hi) h.bw]
    split
    · exact abs_less (z j b).2 (z i b).2 (by rw [Int.natAbs_neg]; exact hk)
    · exact Nat.le_trans (z a b).2 hf
theorem ZB.swap {s : WS} {n w i j Z : Nat} (h : Wf s n w) (z : ZB s Z) (hi : i < n) (hj : j < n) : ZB (s.swap i j) Z := fun a b => by
  refine ⟨?_, ?_⟩
  · show (gE (swapL s.t i j) a b).natAbs ≤ _
    rw [gE_swap (by rw [h.t]; exact hi) (by rw [h.t]; exact hj)]
    split
    · exact (z _ _).1
    · split
      · exact (z _ _).1
      · exact (z _ _).1
  · show (gE (swapL s.b i j) a b).natAbs ≤ _
    rw [gE_swap (by rw [h.b]; exact hi) (by rw [h.b]; exact hj)]
    split
    · exact (z _ _).2
    · split
      · exact (z _ _).2
      · exact (z _ _).2
theorem ZB.turn {s : WS} {n w i Z : Nat} (h : Wf s n w) (z : ZB s Z) (hi : i < n) : ZB (s.turn i) Z := fun a b => by
  refine ⟨?_, ?_⟩
  · show (gE (negL s.t i) a b).natAbs ≤ _
    rw [gE_neg (by rw [h.t]; exact hi)]
    split
    · rw [Int.natAbs_neg]; exact (z _ _).1
    · exact (z _ _).1
  · show (gE (negL s.b i) a b).natAbs ≤ _
    rw [gE_neg (by rw [h.b]; exact hi)]
    split
    · rw [Int.natAbs_neg]; exact (z _ _).2
    · exact (z _ _).2
theorem ZB.subs {s : WS} {n w top c lo Z f : Nat} (h : Wf s n w) (ht : top < n) (z : ZB s Z) : ∀ k, lo + k ≤ n → (top < lo ∨ lo + k ≤ top) → (∀ a, lo ≤ a → a < lo + k → ((ent s a c).fdiv (ent s top c)).natAbs + 1 ≤ f) → ZB (Ab.subs s top c lo k) (Z * f ^ k)
  | 0, _, _, _ => by rw [Nat.pow_zero, Nat.mul_one]; exact z
  | k + 1, hk, hd, hf => by
    have ih := ZB.subs (lo := lo) (c := c) h ht z k (by omega) (by omega) fun a h1 h2 => hf a h1 (by omega)
    have hw := wf_subs (c := c) (lo := lo) h ht k (by omega)
    have e := ent_subs (c := c) (lo := lo) h ht k (by omega : lo + k ≤ n) (by omega)
    rw [Nat.pow_succ, ← Nat.mul_assoc]
    refine ZB.take hw ih (by omega) ht ?_
    rw [e, e, if_neg (by omega), if_neg (by omega)]
    exact hf (lo + k) (by omega) (by omega)
theorem ZB.swapIf {s : WS} {n w top best Z : Nat} (h : Wf s n w) (z : ZB s Z) (ht : top < n) (hb : best < n) : ZB (Ab.swapIf s best top) Z := by
  unfold Ab.swapIf
  split
  · exact z
  · exact z.swap h hb ht
theorem ZB.prep {s : WS} {n w top c best Z : Nat} (h : Wf s n w) (z : ZB s Z) (ht : top < n) (hb : best < n) : ZB (Ab.prep s top c best) Z := by
  unfold Ab.prep turnIf
  split
  · exact (z.swapIf h ht hb).turn (wf_swapIf h ht hb) ht
  · exact z.swapIf h ht hb
/-- the numbers behind the exchange and the turn -/
theorem ent_prep_ne {s : WS} {n w top c best a b : Nat} (h : Wf s n w) (ht : top < n) (hb : best < n) (ha : a ≠ top) : ent (prep s top c best) a b = if a = best then ent s top b else ent s a b := by
  have e1 : ent (swapIf s best top) a b = if a = best then ent s top b else ent s a b := by
    unfold swapIf
    by_cases e : best = top
    · rw [if_pos e]
      by_cases e2 : a = best
      · rw [if_pos e2, e2, e]
      · rw [if_neg e2]
    · rw [if_neg e]
      show gE (swapL s.r best top) a b = _
      rw [gE_swap (by rw [h.r]; exact hb) (by rw [h.r]; exact ht), if_neg ha]
      rfl
  rw [← e1]
  unfold prep turnIf
  split
  · show gE (negL _ top) a b = _
    rw [gE_neg (by rw [(wf_swapIf h ht hb).r]; exact ht), if_neg ha]
    rfl
  · rfl
theorem ent_prep_top {s : WS} {n w top c best b : Nat} (h : Wf s n w) (ht : top < n) (hb : best < n) : (ent (prep s top c best) top b).natAbs = (ent s best b).natAbs := by
  have e1 : ent (swapIf s best top) top b = ent s best b := by
    unfold swapIf
    by_cases e : best = top
    · rw [if_pos e, e]
    · rw [if_neg e]
      show gE (swapL s.r best top) top b = _
      rw [gE_swap (by rw [h.r]; exact hb) (by rw [h.r]; exact ht), if_pos rfl]
      rfl
  rw [← e1]
  unfold prep turnIf
  split
  · show (gE (negL _ top) top b).natAbs = _
    rw [gE_neg (by rw [(wf_swapIf h ht hb).r]; exact ht), if_pos rfl, Int.natAbs_neg]
    rfl
  · rfl
end
end
section
section
theorem best_min {s : WS} {c : Nat} {l : List Nat} {a : Nat} (ha : a ∈ l) : (ent s (bestAt s c l) c).natAbs ≤ (ent s a c).natAbs := by
  obtain ⟨j, hj, rfl⟩ := List.getElem_of_mem ha
  have hb := bestI_ok (ka := fun j => ((ent s (l.getD j 0) c).natAbs : Int)) (kb := fun j => (l.getD j 0 : Int)) (l.length - 1) j (by omega)
  have h := hb.1
  unfold kLess at h
  have e : l.getD j 0 = l[j] := by rw [List.getD_eq_getElem?_getD, List.getElem?_eq_getElem hj]; rfl
  dsimp only at h
  rw [e] at h
  show (ent s (l.getD (bestI (fun j => ((ent s (l.getD j 0) c).natAbs : Int)) (fun j => (l.getD j 0 : Int)) (l.length - 1)) 0) c).natAbs ≤ _
  omega
theorem fdiv_mod {x : Int} {p : Nat} : x - x.fdiv (p : Int) * (p : Int) = x % (p : Int) := by
  have h := Int.mul_fdiv_add_fmod x p
  rw [Int.fmod_eq_emod_of_nonneg x (Int.natCast_nonneg p)] at h
  rw [Int.mul_comm]
  omega
/-- a round seen from its numbers -/
theorem rnd_ent {s : WS} {n w top c : Nat} {l : List Nat} (h : Wf s n w) (ht : top < n) (hb : bestAt s c l < n) : ∀ a j, ent (rnd s top c l) a j = if top < a ∧ a < n then ent (prep s top c (bestAt s c l)) a j - (ent (prep s top c (bestAt s c l)) a c).fdiv ((ent s (bestAt s c l) c).natAbs : Int) * ent (prep s top c (bestAt s c l)) top j else ent (prep s top c (bestAt s c l)) a j := fun a j => by
  unfold rnd
  rw [h.r, ent_subs (lo := top + 1) (wf_prep h ht hb) ht _ (by omega) (by omega), ent_prep h ht hb]
  by_cases ha : top < a ∧ a < n
  · rw [if_pos ha, if_pos (by omega)]
  · rw [if_neg ha, if_neg (by omega)]
structure Euc (s0 u : WS) (n w top c B Z F X : Nat) : Prop where
  wf : Wf u n w
  tp : ent u top c = (X : Int)
  X0 : 0 < X
  low : ∀ a, top < a → a < n → 0 ≤ ent u a c ∧ ent u a c < (X : Int)
  rb : ∀ a, top ≤ a → ∀ j, (ent u a j).natAbs ≤ B * F
  zb : ZB u (Z * F ^ 7)
  abv : ∀ a, a < top → ∀ j, ent u a j = ent s0 a j
  F0 : 0 < F
  fin : F ≤ 6 * B ^ 3
  pot : ∀ P : Nat, (∀ a, top < a → a < n → ent u a c ≠ 0 → (P : Int) ≤ ent u a c) → (∃ a, top < a ∧ a < n ∧ ent u a c ≠ 0) → F * X ^ 2 * P ≤ 3 * B ^ 3
theorem subs_ok {s : WS} {n w top c lo Z f eq er ez : Nat} (h : Wf s n w) (ht : top < n) {k : Nat} (hk : lo + k ≤ n) (hd : top < lo ∨ lo + k ≤ top) (hn : k ≤ 7) (hq : ∀ a, lo ≤ a → a < lo + k → ((ent s a c).fdiv (ent s top c)).natAbs + 1 ≤ f) (hf : f ≤ 2 ^ eq) (hr : ∀ j, (ent s top j).natAbs ≤ 2 ^ er) (z : ZB s Z) (hz : Z * f ^ 7 ≤ 2 ^ ez) (h1 : eq + er + 2 ≤ 134217728) (h2 : eq + ez + 2 ≤ 134217728) : subsOk s top c lo k := fun i hi => by
  have e := ent_subs (c := c) (lo := lo) h ht i (by omega) (by omega)
  have q1 := hq (lo + i) (by omega) (by omega)
  have zz := ZB.subs (lo := lo) (c := c) h ht z i (by omega) (by omega) fun a g1 g2 => hq a g1 (by omega)
  have f1 : 1 ≤ f := by omega
  have zle : Z * f ^ i ≤ 2 ^ ez := Nat.le_trans (Nat.mul_le_mul_left _ (Nat.pow_le_pow_right f1 (by omega))) hz
  have kq : ((ent (subs s top c lo i) (lo + i) c).fdiv (ent (subs s top c lo i) top c)).natAbs ≤ 2 ^ eq := by
    rw [e, e, if_neg (by omega), if_neg (by omega)]
    omega
  refine ⟨gE_all fun j => ?_, gE_all fun j => ?_, gE_all fun j => ?_⟩
  · refine mulOk_bits kq ?_ h1
    show (ent (subs s top c lo i) top j).natAbs ≤ _
    rw [e, if_neg (by omega)]
    exact hr j
  · exact mulOk_bits kq (Nat.le_trans (zz _ _).1 zle) h2
  · exact mulOk_bits (by rw [Int.natAbs_neg]; exact kq) (Nat.le_trans (zz _ _).2 zle) h2
theorem pow7 {Z F f k : Nat} (hf : 0 < f) (hk : k ≤ 7) : Z * F ^ 7 * f ^ k ≤ Z * (F * f) ^ 7 := by
  rw [Nat.mul_pow, ← Nat.mul_assoc]
  exact Nat.mul_le_mul_left _ (Nat.pow_le_pow_right hf hk)
theorem euc_pot {p X P : Nat} (hp : 0 < p) (hpX : p < X) (h : (X % p ≠ 0 ∧ P ≤ X % p) ∨ (X % p = 0 ∧ P < p)) : (p + X) * P ≤ X ^ 2 := by
  have hd := Nat.div_add_mod X p
  have h1 : 1 ≤ X / p := (Nat.le_div_iff_mul_le hp).mpr (by omega)
  rw [Nat.pow_two]
  rcases h with ⟨h0, hP⟩ | ⟨h0, hP⟩
  · have hx : P ≤ X - p := by
      have : p * 1 ≤ p * (X / p) := Nat.mul_le_mul_left p h1
      omega
    obtain ⟨d, rfl⟩ : ∃ d, X = p + d := ⟨X - p, by omega⟩
    have : P ≤ d := by omega
    calc (p + (p + d)) * P ≤ (p + (p + d)) * d := Nat.mul_le_mul_left _ this
      _ ≤ (p + d) * (p + d) := by
        have : (p + (p + d)) * d = p * d + (p * d + d * d) := by rw [Nat.add_mul, Nat.add_mul]
        have e2 : (p + d) * (p + d) = p * p + p * d + (d * p + d * d) := by rw [Nat.add_mul, Nat.mul_add, Nat.mul_add]
        have e3 : d * p = p * d := Nat.mul_comm _ _
        omega
  · have h2 : 2 ≤ X / p := by
      rcases Nat.lt_or_ge (X / p) 2 with h | h
      · have e : X / p = 1 := by omega
        rw [e] at hd
        omega
      · exact h
    have h3 : p * 2 ≤ X := by
      have : p * 2 ≤ p * (X / p) := Nat.mul_le_mul_left p h2
      omega
    calc (p + X) * P ≤ (p + X) * p := Nat.mul_le_mul_left _ (Nat.le_of_lt hP)
      _ ≤ X * X := by
        obtain ⟨d, rfl⟩ : ∃ d, X = p + d := ⟨X - p, by omega⟩
        have hd : p ≤ d := by omega
        have e1 : (p + (p + d)) * p = p * p + (p * p + d * p) := by rw [Nat.add_mul, Nat.add_mul]
        have e2 : (p + d) * (p + d) = p * p + p * d + (d * p + d * d) := by rw [Nat.add_mul, Nat.mul_add, Nat.mul_add]
        have e3 : p * p ≤ p * d := Nat.mul_le_mul_left p hd
        omega
end
section
theorem div_le {q p x R : Nat} (hp : 0 < p) (h : (q + 1) * p ≤ R) : q + 1 ≤ R / p := (Nat.le_div_iff_mul_le hp).mpr h
theorem fdiv_small {x : Int} {p : Nat} (hp : 0 < p) : (x.fdiv (p : Int)).natAbs * p ≤ x.natAbs + (p - 1) := by
  have h := fdiv_mod (x := x) (p := p)
  have h1 := Int.emod_nonneg x (show (p : Int) ≠ 0 by omega)
  have h2 := Int.emod_lt_of_pos x (show (0 : Int) < (p : Int) by omega)
  have e : ((x.fdiv (p : Int)).natAbs * p : Nat) = ((x.fdiv (p : Int)) * (p : Int)).natAbs := by
    rw [Int.natAbs_mul, Int.natAbs_natCast]
  rw [e]
  omega
theorem fdiv_pos {x : Int} {p : Nat} (hp : 0 < p) (hx : 0 ≤ x) : (x.fdiv (p : Int)).natAbs * p ≤ x.natAbs := by
  have h := fdiv_mod (x := x) (p := p)
  have h1 := Int.emod_nonneg x (show (p : Int) ≠ 0 by omega)
  have h0 : 0 ≤ x.fdiv (p : Int) := Int.fdiv_nonneg hx (by omega)
  have e : ((x.fdiv (p : Int)).natAbs * p : Nat) = ((x.fdiv (p : Int)) * (p : Int)).natAbs := by
    rw [Int.natAbs_mul, Int.natAbs_natCast]
  rw [e]
  have h3 : 0 ≤ x.fdiv (p : Int) * (p : Int) := Int.mul_nonneg h0 (by omega)
  omega
/-- one round: the new numbers, by a factor f of the quotients -/
theorem round {s0 u : WS} {n w top c B Z F f R : Nat} {l : List Nat} (hw : Wf u n w) (ht : top < n) (hn : n ≤ 8) (hl : l ≠ []) (hm : ∀ a ∈ l, top ≤ a ∧ a < n ∧ ent u a c ≠ 0) (rb : ∀ a, top ≤ a → ∀ j, (ent u a j).natAbs ≤ B * F) (zb : ZB u (Z * F ^ 7)) (abv : ∀ a, a < top → ∀ j, ent u a j = ent s0 a j) (F0 : 0 < F)
    (hq : ∀ a, top < a → a < n → ((ent (prep u top c (bestAt u c l)) a c).fdiv ((ent u (bestAt u c l) c).natAbs : Int)).natAbs + 1 ≤ f) (f0 : 0 < f) :
    Wf (rnd u top c l) n w ∧ ent (rnd u top c l) top c = ((ent u (bestAt u c l) c).natAbs : Int) ∧ (∀ a, top < a → a < n → ent (rnd u top c l) a c = ent (prep u top c (bestAt u c l)) a c % ((ent u (bestAt u c l) c).natAbs : Int)) ∧ (∀ a, top ≤ a → ∀ j, (ent (rnd u top c l) a j).natAbs ≤ B * (F * f)) ∧ ZB (rnd u top c l) (Z * (F * f) ^ 7) ∧ (∀ a, a < top → ∀ j, ent (rnd u top c l) a j = ent s0 a j) := by
  have hb := hm _ (bestAt_mem (s := u) (c := c) hl)
  have hwp := wf_prep (c := c) hw ht hb.2.1
  have re := rnd_ent (c := c) (l := l) hw ht hb.2.1
  have ep := ent_prep (c := c) hw ht hb.2.1
  have pn : ∀ a, a ≠ top → ∀ j, ent (prep u top c (bestAt u c l)) a j = if a = bestAt u c l then ent u top j else ent u a j := fun a ha j => ent_prep_ne hw ht hb.2.1 ha
  have pb : ∀ a, top ≤ a → ∀ j, (ent (prep u top c (bestAt u c l)) a j).natAbs ≤ B * F := fun a ha j => by
    by_cases e : a = top
    · subst e
      rw [ent_prep_top hw ht hb.2.1]
      exact rb _ hb.1 j
    · rw [pn a e]
      split
      · exact rb _ (Nat.le_refl _) j
      · exact rb a ha j
  refine ⟨?_, ?_, fun a h1 h2 => ?_, fun a ha j => ?_, ?_, fun a ha j => ?_⟩
  · unfold rnd
    rw [hw.r]
    exact wf_subs hwp ht _ (by omega)
  · rw [re, if_neg (by omega), ep]
  · rw [re, if_pos ⟨h1, h2⟩, ep, fdiv_mod]
  · rw [re, ← Nat.mul_assoc]
    split
    · rename_i h
      exact abs_less (pb a ha j) (pb top (Nat.le_refl _) j) (hq a h.1 h.2)
    · exact Nat.le_trans (pb a ha j) (Nat.le_mul_of_pos_right _ f0)
  · unfold rnd
    rw [hw.r]
    refine (ZB.subs (lo := top + 1) (c := c) (f := f) hwp ht (zb.prep hw ht hb.2.1) (n - (top + 1)) (by omega) (by omega) fun a g1 g2 => ?_).mono (pow7 f0 (by omega))
    rw [ep]
    exact hq a (by omega) (by omega)
  · rw [re, if_neg (by omega), pn a (by omega), if_neg (by omega)]
    exact abv a ha j
theorem Euc.step {s0 u : WS} {n w top c B Z F X : Nat} (h : Euc s0 u n w top c B Z F X) (ht : top < n) (hn : n ≤ 8) (hne : bl u (top + 1) c ≠ []) :
    ∃ F' X', X' < X ∧ F ≤ F' ∧ Euc s0 (rnd u top c (bl u (top + 1) c)) n w top c B Z F' X' ∧ ∀ a, top < a → a < n → ((ent (prep u top c (bestAt u c (bl u (top + 1) c))) a c).fdiv ((ent u (bestAt u c (bl u (top + 1) c)) c).natAbs : Int)).natAbs + 1 ≤ F' / F := by
  have hl : ∀ a ∈ bl u (top + 1) c, top ≤ a ∧ a < n ∧ ent u a c ≠ 0 := fun a ha => by
    have := bl_mem.mp ha
    rw [h.wf.r] at this
    exact ⟨by omega, this.2⟩
  have hb0 := bl_mem.mp (bestAt_mem (s := u) (c := c) hne)
  rw [h.wf.r] at hb0
  generalize hbb : bestAt u c (bl u (top + 1) c) = bb at hb0 ⊢
  have hlow := h.low bb (by omega) hb0.2.1
  obtain ⟨p, hp⟩ : ∃ p : Nat, (ent u bb c).natAbs = p := ⟨_, rfl⟩
  have hpe : ent u bb c = (p : Int) := by omega
  have hp0 : 0 < p := by have := hb0.2.2; omega
  have hpX : p < X := by omega
  have hmin : ∀ a, top < a → a < n → ent u a c ≠ 0 → (p : Int) ≤ ent u a c := fun a h1 h2 h3 => by
    have := best_min (s := u) (c := c) (l := bl u (top + 1) c) (bl_mem.mpr ⟨by omega, by rw [h.wf.r]; exact h2, h3⟩)
    rw [hbb, hp] at this
    have := (h.low a h1 h2).1
    omega
  have hpot := h.pot p hmin ⟨bb, by omega, hb0.2.1, hb0.2.2⟩
  have pn : ∀ a, a ≠ top → ∀ j, ent (prep u top c bb) a j = if a = bb then ent u top j else ent u a j := fun a ha j => ent_prep_ne h.wf ht hb0.2.1 ha
  have prange : ∀ a, top < a → a < n → 0 ≤ ent (prep u top c bb) a c ∧ ent (prep u top c bb) a c ≤ (X : Int) := fun a h1 h2 => by
    rw [pn a (by omega)]
    split
    · rw [h.tp]; omega
    · have := h.low a h1 h2; omega
  have f1 : 1 ≤ (p + X) / p := (Nat.le_div_iff_mul_le hp0).mpr (by omega)
  have fp : (p + X) / p * p ≤ p + X := Nat.div_mul_le_self _ _
  have hq : ∀ a, top < a → a < n → ((ent (prep u top c bb) a c).fdiv (p : Int)).natAbs + 1 ≤ (p + X) / p := fun a h1 h2 => by
    have := prange a h1 h2
    refine div_le (x := 0) hp0 ?_
    have := fdiv_pos (x := ent (prep u top c bb) a c) hp0 this.1
    rw [Nat.add_mul, Nat.one_mul]
    omega
  have rr := round (s0 := s0) (f := (p + X) / p) (R := 0) (l := bl u (top + 1) c) (c := c) h.wf ht hn hne hl h.rb h.zb h.abv h.F0 (by rw [hbb, hp]; exact hq) f1
  rw [hbb, hp] at rr
  obtain ⟨r1, r2, r3, r4, r5, r6⟩ := rr
  refine ⟨F * ((p + X) / p), p, hpX, Nat.le_mul_of_pos_right _ f1, ⟨r1, r2, hp0, fun a h1 h2 => ?_, r4, r5, r6, Nat.mul_pos h.F0 f1, ?_, fun P hP hex => ?_⟩, fun a h1 h2 => ?_⟩
  · rw [r3 a h1 h2]
    exact ⟨Int.emod_nonneg _ (by omega), Int.emod_lt_of_pos _ (by omega)⟩
  · have e1 : (p + X) / p ≤ 2 * X := Nat.le_trans (Nat.div_le_self _ _) (by omega)
    have e2 : X ≤ X ^ 2 * p := by
      rw [Nat.pow_two, Nat.mul_assoc]
      exact Nat.le_mul_of_pos_right _ (Nat.mul_pos h.X0 hp0)
    calc F * ((p + X) / p) ≤ F * (2 * X) := Nat.mul_le_mul_left _ e1
      _ ≤ F * (2 * (X ^ 2 * p)) := Nat.mul_le_mul_left _ (Nat.mul_le_mul_left _ e2)
      _ = 2 * (F * X ^ 2 * p) := by rw [Nat.mul_left_comm, Nat.mul_assoc]
      _ ≤ 6 * B ^ 3 := by omega
  · have hPp : P < p := by
      obtain ⟨a, h1, h2, h3⟩ := hex
      have := hP a h1 h2 h3
      rw [r3 a h1 h2] at this
      have := Int.emod_lt_of_pos (ent (prep u top c bb) a c) (show (0 : Int) < (p : Int) by omega)
      omega
    have key : (p + X) * P ≤ X ^ 2 := by
      refine euc_pot hp0 hpX ?_
      by_cases h0 : X % p = 0
      · exact .inr ⟨h0, hPp⟩
      · refine .inl ⟨h0, ?_⟩
        have e : ent (rnd u top c (bl u (top + 1) c)) bb c = ((X % p : Nat) : Int) := by
          rw [r3 bb (by omega) hb0.2.1, pn bb (by omega), if_pos rfl, h.tp]
          exact (Int.natCast_emod X p).symm
        have := hP bb (by omega) hb0.2.1 (by rw [e]; omega)
        rw [e] at this
        omega
    calc F * ((p + X) / p) * p ^ 2 * P = F * p * P * ((p + X) / p * p) := by
          rw [Nat.pow_two]
          simp only [Nat.mul_assoc, Nat.mul_left_comm, Nat.mul_comm]
      _ ≤ F * p * P * (p + X) := Nat.mul_le_mul_left _ fp
      _ = F * p * ((p + X) * P) := by simp only [Nat.mul_assoc, Nat.mul_left_comm, Nat.mul_comm]
      _ ≤ F * p * X ^ 2 := Nat.mul_le_mul_left _ key
      _ = F * X ^ 2 * p := by simp only [Nat.mul_assoc, Nat.mul_left_comm, Nat.mul_comm]
      _ ≤ 3 * B ^ 3 := hpot
  · rw [hp, Nat.mul_div_cancel_left _ h.F0]
    exact hq a h1 h2
end
section
/-- what lets all products through -/
structure Szs (B Z eB eZ : Nat) : Prop where
  b : 6 * B ^ 3 ≤ 2 ^ eB
  r : B * (6 * B ^ 3) ≤ 2 ^ eB
  z : Z * (6 * B ^ 3) ^ 7 ≤ 2 ^ eZ
  s1 : eB + eB + 2 ≤ 134217728
  s2 : eB + eZ + 2 ≤ 134217728
theorem rnd_ok {u : WS} {n w top c B Z F f eB eZ best : Nat} (S : Szs B Z eB eZ) (hw : Wf u n w) (ht : top < n) (hn : n ≤ 8) (hb : best < n) (htb : top ≤ best) (rb : ∀ a, top ≤ a → ∀ j, (ent u a j).natAbs ≤ B * F) (zb : ZB u (Z * F ^ 7)) (F0 : 0 < F) (f0 : 0 < f)
    (hq : ∀ a, top < a → a < n → ((ent (prep u top c best) a c).fdiv ((ent u best c).natAbs : Int)).natAbs + 1 ≤ f) (hF : F * f ≤ 6 * B ^ 3) : subsOk (prep u top c best) top c (top + 1) (n - (top + 1)) := by
  have hFF : F ≤ 6 * B ^ 3 := Nat.le_trans (Nat.le_mul_of_pos_right _ f0) hF
  have hf : f ≤ 6 * B ^ 3 := Nat.le_trans (Nat.le_mul_of_pos_left _ F0) hF
  refine subs_ok (Z := Z * F ^ 7) (f := f) (eq := eB) (er := eB) (ez := eZ) (wf_prep hw ht hb) ht (by omega) (by omega) (by omega) (fun a h1 h2 => by rw [ent_prep hw ht hb]; exact hq a (by omega) (by omega)) (Nat.le_trans hf S.b) (fun j => ?_) (zb.prep hw ht hb) ?_ S.s1 S.s2
  · rw [ent_prep_top hw ht hb]
    exact Nat.le_trans (rb best htb j) (Nat.le_trans (Nat.mul_le_mul_left _ hFF) S.r)
  · refine Nat.le_trans (pow7 f0 (Nat.le_refl 7)) (Nat.le_trans (Nat.mul_le_mul_left _ (Nat.pow_le_pow_left hF 7)) S.z)
theorem euc_run {s : WS} {n w top c B Z eB eZ : Nat} (S : Szs B Z eB eZ) (ht : top < n) (hn : n ≤ 8) : ∀ (X i F : Nat), Euc s (itr s top c i).1 n w top c B Z F X → (itr s top c i).2 = bl (itr s top c i).1 (top + 1) c →
    ∃ m F' X', i ≤ m ∧ (itr s top c m).2 = [] ∧ (∀ j, i ≤ j → j < m → (itr s top c j).2 ≠ [] ∧ subsOk (prep (itr s top c j).1 top c (bestAt (itr s top c j).1 c (itr s top c j).2)) top c (top + 1) (n - (top + 1))) ∧ Euc s (itr s top c m).1 n w top c B Z F' X' ∧ (itr s top c m).2 = bl (itr s top c m).1 (top + 1) c := fun X => by
  induction X using Nat.strongRecOn with
  | _ X ih =>
    intro i F h hl
    by_cases hne : (itr s top c i).2 = []
    · exact ⟨i, F, X, Nat.le_refl _, hne, fun j h1 h2 => by omega, h, hl⟩
    · have hne' : bl (itr s top c i).1 (top + 1) c ≠ [] := hl ▸ hne
      obtain ⟨F', X', hX, hF, h', hq⟩ := h.step ht hn hne'
      rw [← hl] at h' hq
      obtain ⟨m, F2, X2, hm, hm2, hm3, hm4, hm5⟩ := ih X' hX (i + 1) F' h' rfl
      refine ⟨m, F2, X2, by omega, hm2, fun j h1 h2 => ?_, hm4, hm5⟩
      by_cases e : j = i
      · subst e
        refine ⟨hne, ?_⟩
        have hb := itr_mem j _ (bestAt_mem (s := (itr s top c j).1) (c := c) hne)
        rw [h.wf.r] at hb
        refine rnd_ok (f := F' / F) S h.wf ht hn hb.2.1 hb.1 h.rb h.zb h.F0 ?_ hq ?_
        · exact (Nat.le_div_iff_mul_le h.F0).mpr (by omega)
        · exact Nat.le_trans (Nat.mul_div_le F' F) h'.fin
      · exact hm3 j (by omega) h2
/-- a column's end -/
structure ColEnd (s s' : WS) (n w top c B Z : Nat) : Prop where
  wf : Wf s' n w
  tp : 0 ≤ ent s' top c
  low : ∀ a, top < a → a < n → ent s' a c = 0
  rb : ∀ a, top ≤ a → ∀ j, (ent s' a j).natAbs ≤ B * (6 * B ^ 3)
  zb : ZB s' (Z * (6 * B ^ 3) ^ 7)
  abv : ∀ a, a < top → ∀ j, ent s' a j = ent s a j
theorem bl_nil {s : WS} {n w lo c : Nat} (h : Wf s n w) (hl : bl s lo c = []) : ∀ a, lo ≤ a → a < n → ent s a c = 0 := fun a h1 h2 => by
  by_cases e : ent s a c = 0
  · exact e
  · have := (bl_mem (s := s) (lo := lo) (c := c) (at_ := a)).mpr ⟨h1, by rw [h.r]; exact h2, e⟩
    rw [hl] at this
    simp at this
theorem col_ok {s : WS} {n w top c B Z eB eZ : Nat} (S : Szs B Z eB eZ) (h : Wf s n w) (ht : top < n) (hc : c < w) (hn : n ≤ 8) (B0 : 0 < B) (rb : ∀ a, top ≤ a → ∀ j, (ent s a j).natAbs ≤ B) (zb : ZB s Z) :
    ∃ m, clearOk s n w top c m ∧ ColEnd s (itr s top c m).1 n w top c B Z := by
  have B3 : 1 ≤ 6 * B ^ 3 := Nat.mul_pos (by decide) (Nat.pow_pos B0)
  by_cases hne : bl s top c = []
  · refine ⟨0, ⟨h, ht, hc, hne, fun i hi => by omega⟩, h, ?_, fun a h1 h2 => bl_nil h hne a (by omega) h2, fun a ha j => Nat.le_trans (rb a ha j) (Nat.le_mul_of_pos_right _ B3), zb.mono (Nat.le_mul_of_pos_right _ (Nat.pow_pos B3)), fun _ _ _ => rfl⟩
    show 0 ≤ ent s top c
    rw [bl_nil h hne top (Nat.le_refl _) ht]
    exact Int.le_refl 0
  · have hl : ∀ a ∈ bl s top c, top ≤ a ∧ a < n ∧ ent s a c ≠ 0 := fun a ha => by
      have := bl_mem.mp ha
      rw [h.r] at this
      exact this
    have hb0 := hl _ (bestAt_mem (s := s) (c := c) hne)
    obtain ⟨p, hp⟩ : ∃ p : Nat, (ent s (bestAt s c (bl s top c)) c).natAbs = p := ⟨_, rfl⟩
    have hp0 : 0 < p := by have := hb0.2.2; omega
    have hpB : p ≤ B := by rw [← hp]; exact rb _ hb0.1 c
    have hmin : ∀ a, top ≤ a → a < n → ent s a c ≠ 0 → p ≤ (ent s a c).natAbs := fun a h1 h2 h3 => by
      rw [← hp]
      exact best_min (bl_mem.mpr ⟨h1, by rw [h.r]; exact h2, h3⟩)
    have pn : ∀ a, a ≠ top → ∀ j, ent (prep s top c (bestAt s c (bl s top c))) a j = if a = bestAt s c (bl s top c) then ent s top j else ent s a j := fun a ha j => ent_prep_ne h ht hb0.2.1 ha
    have pr : ∀ a, top < a → a < n → (ent (prep s top c (bestAt s c (bl s top c))) a c).natAbs ≤ B ∧ (ent (prep s top c (bestAt s c (bl s top c))) a c ≠ 0 → p ≤ (ent (prep s top c (bestAt s c (bl s top c))) a c).natAbs) := fun a h1 h2 => by
      rw [pn a (by omega)]
      split
      · exact ⟨rb _ (Nat.le_refl _) c, fun z => hmin _ (Nat.le_refl _) ht z⟩
      · exact ⟨rb a (by omega) c, fun z => hmin a (by omega) h2 z⟩
    have f1 : 1 ≤ 3 * B / p := (Nat.le_div_iff_mul_le hp0).mpr (by omega)
    have hq : ∀ a, top < a → a < n → ((ent (prep s top c (bestAt s c (bl s top c))) a c).fdiv (p : Int)).natAbs + 1 ≤ 3 * B / p := fun a h1 h2 => by
      have h3 := pr a h1 h2
      refine div_le (x := 0) hp0 ?_
      have := fdiv_small (x := ent (prep s top c (bestAt s c (bl s top c))) a c) hp0
      rw [Nat.add_mul, Nat.one_mul]
      omega
    have rr := round (s0 := s) (F := 1) (B := B) (Z := Z) (f := 3 * B / p) (R := 0) (l := bl s top c) (c := c) h ht hn hne hl (by simpa using rb) (by simpa using zb) (fun _ _ _ => rfl) (by decide) (by rw [hp]; exact hq) f1
    rw [hp, Nat.one_mul] at rr
    obtain ⟨r1, r2, r3, r4, r5, r6⟩ := rr
    have fB : 3 * B / p * p ≤ 3 * B := Nat.div_mul_le_self _ _
    have f2 : 3 * B / p ≤ 3 * B := Nat.div_le_self _ _
    have B2 : B ≤ B ^ 3 := by
      rw [Nat.pow_succ]
      exact Nat.le_mul_of_pos_left _ (Nat.pow_pos B0)
    have E1 : Euc s (itr s top c 1).1 n w top c B Z (3 * B / p) p := by
      refine ⟨r1, r2, hp0, fun a h1 h2 => ?_, r4, r5, r6, f1, by omega, fun P hP hex => ?_⟩
      · show 0 ≤ ent (rnd s top c (bl s top c)) a c ∧ ent (rnd s top c (bl s top c)) a c < _
        rw [r3 a h1 h2]
        exact ⟨Int.emod_nonneg _ (by omega), Int.emod_lt_of_pos _ (by omega)⟩
      · have hPp : P ≤ B := by
          obtain ⟨a, h1, h2, h3⟩ := hex
          have h4 := hP a h1 h2 h3
          have e : ent (itr s top c 1).1 a c = _ := r3 a h1 h2
          rw [e] at h4
          have := Int.emod_lt_of_pos (ent (prep s top c (bestAt s c (bl s top c))) a c) (show (0 : Int) < (p : Int) by omega)
          omega
        calc 3 * B / p * p ^ 2 * P = 3 * B / p * p * (p * P) := by
              rw [Nat.pow_two]
              simp only [Nat.mul_assoc, Nat.mul_left_comm, Nat.mul_comm]
          _ ≤ 3 * B * (p * P) := Nat.mul_le_mul_right _ fB
          _ ≤ 3 * B * (B * B) := Nat.mul_le_mul_left _ (Nat.mul_le_mul hpB hPp)
          _ = 3 * B ^ 3 := by
            rw [show B ^ 3 = B * B * B by rw [Nat.pow_succ, Nat.pow_two]]
            simp only [Nat.mul_assoc]
    obtain ⟨m, F', X', hm, hm2, hm3, hm4, hm5⟩ := euc_run S ht hn p 1 (3 * B / p) E1 rfl
    refine ⟨m, ⟨h, ht, hc, hm2, fun i hi => ?_⟩, hm4.wf, by rw [hm4.tp]; omega, fun a h1 h2 => bl_nil hm4.wf (hm5 ▸ hm2) a (by omega) h2, fun a ha j => Nat.le_trans (hm4.rb a ha j) (Nat.mul_le_mul_left _ hm4.fin), hm4.zb.mono (Nat.mul_le_mul_left _ (Nat.pow_le_pow_left hm4.fin 7)), hm4.abv⟩
    by_cases e : i = 0
    · subst e
      refine ⟨hne, ?_⟩
      show subsOk (prep s top c (bestAt s c (bl s top c))) top c (top + 1) (n - (top + 1))
      refine rnd_ok (F := 1) (f := 3 * B / p) S h ht hn hb0.2.1 hb0.1 (by simpa using rb) (by simpa using zb) (by decide) f1 (by rw [hp]; exact hq) ?_
      rw [Nat.one_mul]
      omega
    · exact hm3 i (by omega) hi
end
end
section
section
/-- by steps -/
inductive Reach (n w : Nat) (s0 : WS) : WS → Prop
  | refl : Reach n w s0 s0
  | swap {s : WS} {i j : Nat} (h : Reach n w s0 s) (hw : Wf s n w) (hi : i < n) (hj : j < n) (hij : i ≠ j) : Reach n w s0 (s.swap i j)
  | turn {s : WS} {i : Nat} (h : Reach n w s0 s) (hw : Wf s n w) (hi : i < n) : Reach n w s0 (s.turn i)
  | take {s : WS} {i j : Nat} {k : Int} (h : Reach n w s0 s) (hw : Wf s n w) (hi : i < n) (hj : j < n) (hij : i ≠ j) : Reach n w s0 (s.take i k j)
theorem Reach.trans {n w : Nat} {s0 s1 s2 : WS} (h : Reach n w s0 s1) (h2 : Reach n w s1 s2) : Reach n w s0 s2 := by
  induction h2 with
  | refl => exact h
  | swap _ hw hi hj hij ih => exact ih.swap hw hi hj hij
  | turn _ hw hi ih => exact ih.turn hw hi
  | take _ hw hi hj hij ih => exact ih.take hw hi hj hij
theorem reach_prep {s : WS} {n w top c best : Nat} (h : Wf s n w) (ht : top < n) (hb : best < n) : Reach n w s (prep s top c best) := by
  have h1 : Reach n w s (swapIf s best top) := by
    unfold swapIf
    split
    · exact .refl
    · rename_i e
      exact Reach.refl.swap h hb ht e
  unfold prep turnIf
  split
  · exact h1.turn (wf_swapIf h ht hb) ht
  · exact h1
theorem reach_subs {s : WS} {n w top c lo : Nat} (h : Wf s n w) (ht : top < n) : ∀ k, lo + k ≤ n → (top < lo ∨ lo + k ≤ top) → Reach n w s (subs s top c lo k)
  | 0, _, _ => .refl
  | k + 1, hk, hd => (reach_subs h ht k (by omega) (by omega)).take (wf_subs h ht k (by omega)) (by omega) ht (by omega)
theorem reach_itr {s : WS} {n w top c : Nat} (h : Wf s n w) (ht : top < n) : ∀ i, (∀ j, j < i → (itr s top c j).2 ≠ []) → Reach n w s (itr s top c i).1
  | 0, _ => .refl
  | i + 1, hj => by
    have hw := wf_itr (c := c) h ht i fun j hj' => hj j (by omega)
    have hb := itr_mem i _ (bestAt_mem (c := c) (s := (itr s top c i).1) (hj i (by omega)))
    rw [hw.r] at hb
    refine ((reach_itr h ht i fun j hj' => hj j (by omega)).trans (reach_prep (c := c) hw ht hb.2.1)).trans ?_
    show Reach n w _ (rnd _ top c _)
    unfold rnd
    rw [hw.r]
    exact reach_subs (wf_prep hw ht hb.2.1) ht _ (by omega) (by omega)
/-- zeros of a column stay -/
theorem itr_zero {s : WS} {n w top c j : Nat} (h : Wf s n w) (ht : top < n) (hz : ∀ a, top ≤ a → ent s a j = 0) : ∀ i, (∀ k, k < i → (itr s top c k).2 ≠ []) → ∀ a, top ≤ a → ent (itr s top c i).1 a j = 0
  | 0, _ => hz
  | i + 1, hk => by
    have hw := wf_itr (c := c) h ht i fun j hj' => hk j (by omega)
    have ih := itr_zero h ht hz i fun j hj' => hk j (by omega)
    have hb := itr_mem i _ (bestAt_mem (c := c) (s := (itr s top c i).1) (hk i (by omega)))
    rw [hw.r] at hb
    have pz : ∀ a, top ≤ a → ent (prep (itr s top c i).1 top c (bestAt (itr s top c i).1 c (itr s top c i).2)) a j = 0 := fun a ha => by
      by_cases e : a = top
      · subst e
        have := ent_prep_top (c := c) (b := j) hw ht hb.2.1
        rw [ih _ hb.1] at this
        exact Int.natAbs_eq_zero.mp this
      · rw [ent_prep_ne hw ht hb.2.1 e]
        split
        · exact ih _ (Nat.le_refl _)
        · exact ih a ha
    intro a ha
    show ent (rnd _ top c _) a j = 0
    rw [rnd_ent hw ht hb.2.1, pz a ha, pz top (Nat.le_refl _)]
    split <;> simp
/-- numbers outside are 0 -/
theorem ent_out {s : WS} {n w i j : Nat} (h : Wf s n w) (hi : n ≤ i) : ent s i j = 0 := by
  unfold ent
  rw [List.getD_eq_getElem?_getD (l := s.r), List.getElem?_eq_none (by rw [h.r]; exact hi)]
  rfl
/-- the form of the columns behind -/
structure Ech (s : WS) (n top c : Nat) (pc : Nat → Nat) : Prop where
  lt : ∀ i, i < top → pc i < c
  inc : ∀ i j, i < j → j < top → pc i < pc j
  left : ∀ i, i < top → ∀ j, j < pc i → ent s i j = 0
  pos : ∀ i, i < top → 0 < ent s i (pc i)
  abv : ∀ k i, k < i → i < top → 0 ≤ ent s k (pc i) ∧ ent s k (pc i) < ent s i (pc i)
  low : ∀ i, top ≤ i → ∀ j, j < c → ent s i j = 0
theorem Ech.next {s : WS} {n w top c m B Z : Nat} {pc : Nat → Nat} (e : Ech s n top c pc) (h : Wf s n w) (ho : clearOk s n w top c m) (ce : ColEnd s (itr s top c m).1 n w top c B Z) :
    ∃ pc', Ech (colStep (s, top) n c m).1 n (colStep (s, top) n c m).2 (c + 1) pc' := by
  obtain ⟨_, ht, hc, hm, hir⟩ := ho
  have z := fun j hj => itr_zero (c := c) (j := j) h ht (fun a ha => e.low a ha j hj) m fun k hk => (hir k hk).1
  unfold colStep
  rw [if_pos ht]
  show ∃ pc', Ech (if ent (itr s top c m).1 top c ≠ 0 then (subs (itr s top c m).1 top c 0 top, top + 1) else ((itr s top c m).1, top) : WS × Nat).1 n (if ent (itr s top c m).1 top c ≠ 0 then (subs (itr s top c m).1 top c 0 top, top + 1) else ((itr s top c m).1, top) : WS × Nat).2 (c + 1) pc'
  generalize hs1 : (itr s top c m).1 = u at ce z
  have lowc : ∀ i, top < i → ent u i c = 0 := fun i h1 => by
    by_cases h2 : i < n
    · exact ce.low i h1 h2
    · exact ent_out ce.wf (by omega)
  by_cases hp : ent u top c = 0
  · rw [if_neg (fun z => z hp)]
    refine ⟨pc, fun i hi => Nat.lt_succ_of_lt (e.lt i hi), e.inc, fun i hi j hj => by rw [ce.abv i hi]; exact e.left i hi j hj, fun i hi => by rw [ce.abv i hi]; exact e.pos i hi, fun k i hk hi => by rw [ce.abv i hi, ce.abv k (by omega)]; exact e.abv k i hk hi, fun i hi j hj => ?_⟩
    by_cases hjc : j < c
    · exact z j hjc i hi
    · have : j = c := by omega
      subst this
      by_cases hit : i = top
      · rw [hit]; exact hp
      · exact lowc i (by show top < i; have : top ≤ i := hi; omega)
  · rw [if_pos hp]
    have pv : 0 < ent u top c := by have := ce.tp; omega
    have es := ent_subs (c := c) (lo := 0) ce.wf ht top (by omega) (.inr (by omega))
    have eb : ∀ a, top ≤ a → ∀ b, ent (subs u top c 0 top) a b = ent u a b := fun a ha b => by rw [es, if_neg (by omega)]
    have ea : ∀ a, a < top → ∀ b, b < c → ent (subs u top c 0 top) a b = ent s a b := fun a ha b hb => by
      rw [es, if_pos (by omega), z b hb top (Nat.le_refl _), Int.mul_zero, Int.sub_zero, ce.abv a ha]
    refine ⟨fun i => if i = top then c else pc i, fun i hi => ?_, fun i j hij hj => ?_, fun i hi j hj => ?_, fun i hi => ?_, fun k i hk hi => ?_, fun i hi j hj => ?_⟩
    · show (if i = top then c else pc i) < c + 1
      split
      · omega
      · have := e.lt i (by have : i < top + 1 := hi; omega)
        omega
    · have hj' : j < top + 1 := hj
      show (if i = top then c else pc i) < (if j = top then c else pc j)
      rw [if_neg (by omega)]
      split
      · exact e.lt i (by omega)
      · exact e.inc i j hij (by omega)
    · have hi' : i < top + 1 := hi
      have hj' : j < (if i = top then c else pc i) := hj
      show ent (subs u top c 0 top) i j = 0
      by_cases hit : i = top
      · rw [if_pos hit] at hj'
        rw [hit, eb top (Nat.le_refl _)]
        exact z j hj' top (Nat.le_refl _)
      · rw [if_neg hit] at hj'
        have := e.lt i (by omega)
        rw [ea i (by omega) j (by omega)]
        exact e.left i (by omega) j hj'
    · have hi' : i < top + 1 := hi
      show 0 < ent (subs u top c 0 top) i (if i = top then c else pc i)
      by_cases hit : i = top
      · rw [if_pos hit, hit, eb top (Nat.le_refl _)]
        exact pv
      · rw [if_neg hit, ea i (by omega) _ (e.lt i (by omega))]
        exact e.pos i (by omega)
    · have hi' : i < top + 1 := hi
      show 0 ≤ ent (subs u top c 0 top) k (if i = top then c else pc i) ∧ ent (subs u top c 0 top) k (if i = top then c else pc i) < ent (subs u top c 0 top) i (if i = top then c else pc i)
      by_cases hit : i = top
      · rw [if_pos hit, hit, eb top (Nat.le_refl _), es, if_pos (by omega)]
        obtain ⟨p, hpe⟩ : ∃ p : Nat, ent u top c = (p : Int) := ⟨(ent u top c).toNat, by omega⟩
        rw [hpe, fdiv_mod]
        exact ⟨Int.emod_nonneg _ (by omega), Int.emod_lt_of_pos _ (by omega)⟩
      · rw [if_neg hit, ea k (by omega) _ (e.lt i (by omega)), ea i (by omega) _ (e.lt i (by omega))]
        exact e.abv k i hk (by omega)
    · have hi' : top + 1 ≤ i := hi
      show ent (subs u top c 0 top) i j = 0
      rw [eb i (by omega)]
      by_cases hjc : j < c
      · exact z j hjc i (by omega)
      · have : j = c := by omega
        subst this
        exact lowc i (by omega)
end
section
def nb : Nat → Nat × Nat × Nat
  | 0 => (20, 20, 0)
  | c + 1 => let u := nb c; (4 * u.1 + 3, u.2.1 + (4 * u.1 + 3) + 1, u.2.2 + 7 * (3 * u.1 + 3) + 7 * (u.2.1 + 1))
theorem nb_ok : ∀ c, c < 8 → (4 * (nb c).1 + 3) + (4 * (nb c).1 + 3) + 2 ≤ 134217728 ∧ (4 * (nb c).1 + 3) + ((nb c).2.2 + 7 * (3 * (nb c).1 + 3)) + 2 ≤ 134217728 ∧ ((nb c).2.1 + 1) + (4 * (nb c).1 + 3) + 2 ≤ 134217728 ∧ ((nb c).2.1 + 1) + ((nb c).2.2 + 7 * (3 * (nb c).1 + 3) + 7 * ((nb c).2.1 + 1)) + 2 ≤ 134217728 := by decide
structure Cst (a : List (List Int)) (c : Nat) (u : WS × Nat) : Prop where
  wf : Wf u.1 a.length (wd a)
  tp : u.2 ≤ a.length
  rch : Reach a.length (wd a) (wsOf a) u.1
  ech : ∃ pc, Ech u.1 a.length u.2 c pc
  rb : ∀ i, u.2 ≤ i → ∀ j, (ent u.1 i j).natAbs ≤ 2 ^ (nb c).1
  ab : ∀ i j, (ent u.1 i j).natAbs ≤ 2 ^ (nb c).2.1
  zb : ZB u.1 (2 ^ (nb c).2.2)
theorem six {b : Nat} : 6 * (2 ^ b) ^ 3 ≤ 2 ^ (3 * b + 3) := by
  rw [← Nat.pow_mul, Nat.pow_add, Nat.mul_comm b 3]
  have : 0 < 2 ^ (3 * b) := Nat.pow_pos (by decide)
  omega
theorem szs_of {b z : Nat} (h1 : (4 * b + 3) + (4 * b + 3) + 2 ≤ 134217728) (h2 : (4 * b + 3) + (z + 7 * (3 * b + 3)) + 2 ≤ 134217728) : Szs (2 ^ b) (2 ^ z) (4 * b + 3) (z + 7 * (3 * b + 3)) := by
  refine ⟨Nat.le_trans six (Nat.pow_le_pow_right (by decide) (by omega)), ?_, ?_, h1, h2⟩
  · calc 2 ^ b * (6 * (2 ^ b) ^ 3) ≤ 2 ^ b * 2 ^ (3 * b + 3) := Nat.mul_le_mul_left _ six
      _ = 2 ^ (4 * b + 3) := by rw [← Nat.pow_add]; congr 1; omega
  · calc 2 ^ z * (6 * (2 ^ b) ^ 3) ^ 7 ≤ 2 ^ z * (2 ^ (3 * b + 3)) ^ 7 := Nat.mul_le_mul_left _ (Nat.pow_le_pow_left six 7)
      _ = 2 ^ (z + 7 * (3 * b + 3)) := by rw [← Nat.pow_mul, ← Nat.pow_add, Nat.mul_comm (3 * b + 3) 7]
theorem fdiv_le {x : Int} {p : Nat} (hp : 0 < p) : (x.fdiv (p : Int)).natAbs ≤ x.natAbs := by
  have h := fdiv_small (x := x) hp
  rcases Nat.lt_or_ge x.natAbs (x.fdiv (p : Int)).natAbs with h1 | h1
  · have h2 : (x.natAbs + 1) * p ≤ (x.fdiv (p : Int)).natAbs * p := Nat.mul_le_mul_right _ h1
    rw [Nat.add_mul, Nat.one_mul] at h2
    have h3 : x.natAbs ≤ x.natAbs * p := Nat.le_mul_of_pos_right _ hp
    omega
  · exact h1
theorem Cst.zero {a : List (List Int)} (h : Mx a) : Cst a 0 (wsOf a, 0) := by
  have hb : ∀ i j, (ent (wsOf a) i j).natAbs ≤ 2 ^ 20 := fun i j => by
    show ((a.getD i []).getD j 0).natAbs ≤ _
    by_cases hi : i < a.length
    · by_cases hj : j < (a.getD i []).length
      · have := h.num _ (mem_getD hi) _ (mem_getD (a0 := 0) hj)
        have e : (2 : Nat) ^ 20 = 1048576 := by decide
        omega
      · rw [List.getD_eq_getElem?_getD (l := a.getD i []), List.getElem?_eq_none (by omega)]
        exact Nat.zero_le _
    · rw [List.getD_eq_getElem?_getD (l := a), List.getElem?_eq_none (by omega)]
      exact Nat.zero_le _
  have hu : ∀ n i j, (gE (unitM n) i j).natAbs ≤ 1 := fun n i j => by
    unfold gE unitM
    by_cases hi : i < n
    · rw [List.getD_eq_getElem?_getD (l := List.map _ _), List.getElem?_map, List.getElem?_range hi]
      show (List.getD (List.map (fun j => if j = i then (1 : Int) else 0) (List.range n)) j 0).natAbs ≤ 1
      by_cases hj : j < n
      · rw [List.getD_eq_getElem?_getD, List.getElem?_map, List.getElem?_range hj]
        show (if j = i then (1 : Int) else 0).natAbs ≤ 1
        split <;> decide
      · rw [List.getD_eq_getElem?_getD, List.getElem?_eq_none (by rw [List.length_map, List.length_range]; omega)]
        decide
    · rw [List.getD_eq_getElem?_getD (l := List.map _ _), List.getElem?_eq_none (by rw [List.length_map, List.length_range]; omega)]
      simp
  exact ⟨wf_of h, Nat.zero_le _, .refl, ⟨fun _ => 0, fun i hi => absurd hi (Nat.not_lt_zero i), fun i j _ hj => absurd hj (Nat.not_lt_zero j), fun i hi => absurd hi (Nat.not_lt_zero i), fun i hi => absurd hi (Nat.not_lt_zero i), fun k i _ hi => absurd hi (Nat.not_lt_zero i), fun i _ j hj => absurd hj (Nat.not_lt_zero j)⟩, fun i _ j => hb i j, hb, fun i j => ⟨hu _ i j, hu _ i j⟩⟩
theorem Ech.more {s : WS} {n w top c : Nat} {pc : Nat → Nat} (e : Ech s n top c pc) (h : Wf s n w) (ht : n ≤ top) : Ech s n top (c + 1) pc :=
  ⟨fun i hi => Nat.lt_succ_of_lt (e.lt i hi), e.inc, e.left, e.pos, e.abv, fun i hi j _ => ent_out h (by omega)⟩
theorem Cst.next {a : List (List Int)} {c : Nat} {u : WS × Nat} (h : Mx a) (hc : c < wd a) (st : Cst a c u) : ∃ m, (u.2 < a.length → clearOk u.1 a.length (wd a) u.2 c m ∧ (ent (itr u.1 u.2 c m).1 u.2 c ≠ 0 → subsOk (itr u.1 u.2 c m).1 u.2 c 0 u.2)) ∧ Cst a (c + 1) (colStep u a.length c m) := by
  have l8 := h.l8
  have w8 := h.w8
  obtain ⟨s, top⟩ := u
  obtain ⟨n1, n2, n3, n4⟩ := nb_ok c (by omega)
  obtain ⟨⟨b, az, z⟩, hnb⟩ : ∃ q, nb c = q := ⟨_, rfl⟩
  rw [hnb] at n1 n2 n3 n4
  have wf := st.wf
  have rb := st.rb
  have ab := st.ab
  have zb := st.zb
  rw [hnb] at rb ab zb
  dsimp only at n1 n2 n3 n4 wf rb ab zb
  have hnb' : nb (c + 1) = (4 * b + 3, az + (4 * b + 3) + 1, z + 7 * (3 * b + 3) + 7 * (az + 1)) := by
    show (4 * (nb c).1 + 3, (nb c).2.1 + (4 * (nb c).1 + 3) + 1, (nb c).2.2 + 7 * (3 * (nb c).1 + 3) + 7 * ((nb c).2.1 + 1)) = _
    rw [hnb]
  obtain ⟨pc, ech⟩ := st.ech
  by_cases ht : top < a.length
  · obtain ⟨m, ok, ce⟩ := col_ok (szs_of n1 n2) wf ht hc (by omega) (Nat.pow_pos (by decide)) rb zb
    have rch : Reach a.length (wd a) (wsOf a) (itr s top c m).1 := st.rch.trans (reach_itr wf ht m fun j hj => (ok.2.2.2.2 j hj).1)
    have ech' := ech.next wf ok ce
    have S := szs_of n1 n2
    have rbu : ∀ i, top ≤ i → ∀ j, (ent (itr s top c m).1 i j).natAbs ≤ 2 ^ (4 * b + 3) := fun i hi j => Nat.le_trans (ce.rb i hi j) S.r
    have abu : ∀ i j, i < top → (ent (itr s top c m).1 i j).natAbs ≤ 2 ^ az := fun i j hi => by rw [ce.abv i hi]; exact ab i j
    have zbu : ZB (itr s top c m).1 (2 ^ (z + 7 * (3 * b + 3))) := ce.zb.mono S.z
    have p1 : 2 ^ az ≤ 2 ^ (az + (4 * b + 3) + 1) := Nat.pow_le_pow_right (by decide) (by omega)
    have p2 : 2 ^ (4 * b + 3) ≤ 2 ^ (az + (4 * b + 3) + 1) := Nat.pow_le_pow_right (by decide) (by omega)
    have p3 : 2 ^ (z + 7 * (3 * b + 3)) ≤ 2 ^ (z + 7 * (3 * b + 3) + 7 * (az + 1)) := Nat.pow_le_pow_right (by decide) (by omega)
    by_cases hp : ent (itr s top c m).1 top c = 0
    · have ecs : colStep (s, top) a.length c m = ((itr s top c m).1, top) := by
        unfold colStep
        rw [if_pos ht]
        show (if ent (itr s top c m).1 top c ≠ 0 then _ else _ : WS × Nat) = _
        rw [if_neg (fun z => z hp)]
      refine ⟨m, fun _ => ⟨ok, fun z => absurd hp z⟩, ?_⟩
      rw [ecs] at ech' ⊢
      refine ⟨ce.wf, Nat.le_of_lt ht, rch, ech', fun i hi j => ?_, fun i j => ?_, ?_⟩
      · rw [hnb']; exact rbu i hi j
      · rw [hnb']
        by_cases hi : i < top
        · exact Nat.le_trans (abu i j hi) p1
        · exact Nat.le_trans (rbu i (by omega) j) p2
      · rw [hnb']; exact zbu.mono p3
    · have ecs : colStep (s, top) a.length c m = (subs (itr s top c m).1 top c 0 top, top + 1) := by
        unfold colStep
        rw [if_pos ht]
        show (if ent (itr s top c m).1 top c ≠ 0 then _ else _ : WS × Nat) = _
        rw [if_pos hp]
      obtain ⟨p, hpe⟩ : ∃ p : Nat, ent (itr s top c m).1 top c = (p : Int) := ⟨(ent (itr s top c m).1 top c).toNat, by have := ce.tp; omega⟩
      have hp0 : 0 < p := by omega
      have f1 : 2 ^ az + 1 ≤ 2 ^ (az + 1) := by
        rw [Nat.pow_succ]
        have : 0 < 2 ^ az := Nat.pow_pos (by decide)
        omega
      have hq : ∀ i, 0 ≤ i → i < 0 + top → ((ent (itr s top c m).1 i c).fdiv (ent (itr s top c m).1 top c)).natAbs + 1 ≤ 2 ^ (az + 1) := fun i _ hi => by
        rw [hpe]
        have := fdiv_le (x := ent (itr s top c m).1 i c) hp0
        have := abu i c (by omega)
        omega
      have zf : 2 ^ (z + 7 * (3 * b + 3)) * (2 ^ (az + 1)) ^ 7 = 2 ^ (z + 7 * (3 * b + 3) + 7 * (az + 1)) := by
        rw [← Nat.pow_mul, ← Nat.pow_add, Nat.mul_comm (az + 1) 7]
      have es := ent_subs (c := c) (lo := 0) ce.wf ht top (by omega) (.inr (by omega))
      refine ⟨m, fun _ => ⟨ok, fun _ => subs_ok (lo := 0) (f := 2 ^ (az + 1)) (eq := az + 1) (er := 4 * b + 3) ce.wf ht (by omega) (.inr (by omega)) (by omega) hq (Nat.le_refl _) (rbu top (Nat.le_refl _)) zbu (Nat.le_of_eq zf) n3 n4⟩, ?_⟩
      rw [ecs] at ech' ⊢
      refine ⟨wf_subs ce.wf ht top (by omega), ht, rch.trans (reach_subs ce.wf ht top (by omega) (.inr (by omega))), ech', fun i hi j => ?_, fun i j => ?_, ?_⟩
      · have hi' : top + 1 ≤ i := hi
        rw [hnb']
        show (ent (subs (itr s top c m).1 top c 0 top) i j).natAbs ≤ _
        rw [es, if_neg (by omega)]
        exact rbu i (by omega) j
      · rw [hnb']
        show (ent (subs (itr s top c m).1 top c 0 top) i j).natAbs ≤ _
        rw [es]
        split
        · rename_i hi
          have e2 := abs_less (Z := 2 ^ (az + (4 * b + 3))) (f := 1) (x := ent (itr s top c m).1 i j) (y := 0) (k := 0) (Nat.le_trans (abu i j (by omega)) (Nat.pow_le_pow_right (by decide) (by omega))) (Nat.zero_le _) (by decide)
          have h1 := abu i j (by omega)
          have h2 := fdiv_le (x := ent (itr s top c m).1 i c) hp0
          have h3 := abu i c (by omega)
          have h4 := rbu top (Nat.le_refl _) j
          rw [hpe]
          have h5 : ((ent (itr s top c m).1 i c).fdiv (p : Int) * ent (itr s top c m).1 top j).natAbs ≤ 2 ^ (az + (4 * b + 3)) := by
            rw [Int.natAbs_mul, Nat.pow_add]
            exact Nat.mul_le_mul (Nat.le_trans h2 h3) h4
          have h6 : 2 ^ az ≤ 2 ^ (az + (4 * b + 3)) := Nat.pow_le_pow_right (by decide) (by omega)
          have h7 : 2 ^ (az + (4 * b + 3) + 1) = 2 * 2 ^ (az + (4 * b + 3)) := by rw [Nat.pow_succ, Nat.mul_comm]
          show (ent (itr s top c m).1 i j - (ent (itr s top c m).1 i c).fdiv (p : Int) * ent (itr s top c m).1 top j).natAbs ≤ 2 ^ (az + (4 * b + 3) + 1)
          rw [h7]
          omega
        · by_cases hi : i < top
          · exact Nat.le_trans (abu i j hi) p1
          · exact Nat.le_trans (rbu i (by omega) j) p2
      · rw [hnb']
        show ZB (subs (itr s top c m).1 top c 0 top) _
        refine (ZB.subs (lo := 0) (c := c) (f := 2 ^ (az + 1)) ce.wf ht zbu top (by omega) (.inr (by omega)) hq).mono ?_
        show _ ≤ 2 ^ (z + 7 * (3 * b + 3) + 7 * (az + 1))
        rw [← zf]
        exact Nat.mul_le_mul_left _ (Nat.pow_le_pow_right (Nat.pow_pos (by decide)) (by omega))
  · have ecs : colStep (s, top) a.length c 0 = (s, top) := by
      unfold colStep
      rw [if_neg ht]
    refine ⟨0, fun z => absurd z ht, ?_⟩
    rw [ecs]
    refine ⟨wf, st.tp, st.rch, ⟨pc, ech.more wf (by show a.length ≤ top; omega)⟩, fun i hi j => ?_, fun i j => ?_, ?_⟩
    · rw [hnb']; exact Nat.le_trans (rb i hi j) (Nat.pow_le_pow_right (by decide) (by show b ≤ 4 * b + 3; omega))
    · rw [hnb']; exact Nat.le_trans (ab i j) (Nat.pow_le_pow_right (by decide) (by show az ≤ az + (4 * b + 3) + 1; omega))
    · rw [hnb']; exact zb.mono (Nat.pow_le_pow_right (by decide) (by show z ≤ z + 7 * (3 * b + 3) + 7 * (az + 1); omega))
theorem hw_congr {a : List (List Int)} {m1 m2 : Nat → Nat} : ∀ c, (∀ k, k < c → m1 k = m2 k) → hw a m1 c = hw a m2 c
  | 0, _ => rfl
  | c + 1, h => by
    show colStep (hw a m1 c) a.length c (m1 c) = colStep (hw a m2 c) a.length c (m2 c)
    rw [hw_congr c fun k hk => h k (by omega), h c (by omega)]
theorem hermite_ex {a : List (List Int)} (h : Mx a) : ∃ mm, hwOk a (wd a) mm ∧ Cst a (wd a) (hw a mm (wd a)) := by
  have key : ∀ c, c ≤ wd a → ∃ mm, (∀ k, k < c → (hw a mm k).2 < a.length → clearOk (hw a mm k).1 a.length (wd a) (hw a mm k).2 k (mm k) ∧ (ent (itr (hw a mm k).1 (hw a mm k).2 k (mm k)).1 (hw a mm k).2 k ≠ 0 → subsOk (itr (hw a mm k).1 (hw a mm k).2 k (mm k)).1 (hw a mm k).2 k 0 (hw a mm k).2)) ∧ Cst a c (hw a mm c) := fun c => by
    induction c with
    | zero => exact fun _ => ⟨fun _ => 0, fun k hk => absurd hk (Nat.not_lt_zero k), Cst.zero h⟩
    | succ c ih =>
      intro hc
      obtain ⟨mm, h1, h2⟩ := ih (by omega)
      obtain ⟨m, h3, h4⟩ := h2.next h (by omega)
      have e : ∀ k, k ≤ c → hw a (fun j => if j = c then m else mm j) k = hw a mm k := fun k hk => hw_congr k fun j hj => if_neg (by omega)
      refine ⟨fun j => if j = c then m else mm j, fun k hk => ?_, ?_⟩
      · rw [e k (by omega)]
        show _ → clearOk _ _ _ _ _ (if k = c then m else mm k) ∧ (ent (itr _ _ _ (if k = c then m else mm k)).1 _ _ ≠ 0 → subsOk (itr _ _ _ (if k = c then m else mm k)).1 _ _ _ _)
        by_cases hk' : k = c
        · rw [if_pos hk', hk']
          exact h3
        · rw [if_neg hk']
          exact h1 k (by omega)
      · show Cst a (c + 1) (colStep (hw a (fun j => if j = c then m else mm j) c) a.length c (if c = c then m else mm c))
        rw [e c (Nat.le_refl _), if_pos rfl]
        exact h4
  obtain ⟨mm, h1, h2⟩ := key (wd a) (Nat.le_refl _)
  exact ⟨mm, h1, h2⟩
end
/-! ### what rows span -/
section
def InS : List (List Int) → (Nat → Int) → Prop
  | [], v => ∀ j, v j = 0
  | r :: rs, v => ∃ c : Int, InS rs fun j => v j - c * r.getD j 0
theorem InS.congr {u v : Nat → Int} : ∀ {l : List (List Int)}, InS l u → (∀ j, u j = v j) → InS l v
  | [], h, e => fun j => (e j).symm.trans (h j)
  | _ :: _, ⟨c, h⟩, e => ⟨c, h.congr fun j => by rw [e j]⟩
theorem InS.zero : ∀ {l : List (List Int)}, InS l fun _ => 0
  | [] => fun _ => rfl
  | _ :: _ => ⟨0, InS.zero.congr fun j => by simp⟩
theorem InS.add {u v : Nat → Int} : ∀ {l : List (List Int)}, InS l u → InS l v → InS l fun j => u j + v j
  | [], h, h2 => fun j => by show u j + v j = 0; rw [h j, h2 j]; rfl
  | _ :: _, ⟨c, h⟩, ⟨d, h2⟩ => ⟨c + d, (h.add h2).congr fun j => by
    show _ = u j + v j - (c + d) * _
    rw [Int.add_mul]
    omega⟩
theorem InS.smul {v : Nat → Int} {k : Int} : ∀ {l : List (List Int)}, InS l v → InS l fun j => k * v j
  | [], h => fun j => by show k * v j = 0; rw [h j, Int.mul_zero]
  | _ :: _, ⟨c, h⟩ => ⟨k * c, (h.smul (k := k)).congr fun j => by rw [Int.mul_sub, Int.mul_assoc]⟩
theorem InS.cons {v : Nat → Int} {r : List Int} {l : List (List Int)} (h : InS l v) : InS (r :: l) v := ⟨0, h.congr fun j => by simp⟩
theorem InS.mem {r : List Int} : ∀ {l : List (List Int)}, r ∈ l → InS l fun j => r.getD j 0
  | _ :: _, h => by
    rcases List.mem_cons.mp h with e | e
    · subst e
      exact ⟨1, InS.zero.congr fun j => by simp⟩
    · exact (InS.mem e).cons
theorem InS.of {l2 : List (List Int)} {v : Nat → Int} : ∀ {l : List (List Int)}, InS l v → (∀ r ∈ l, InS l2 fun j => r.getD j 0) → InS l2 v
  | [], h, _ => InS.zero.congr fun j => (h j).symm
  | r :: rs, ⟨c, h⟩, q => ((h.of fun x hx => q x (List.mem_cons_of_mem _ hx)).add ((q r List.mem_cons_self).smul (k := c))).congr fun j => by omega
def Sub (l l2 : List (List Int)) : Prop := ∀ r ∈ l, InS l2 fun j => r.getD j 0
theorem Sub.refl {l : List (List Int)} : Sub l l := fun _ h => InS.mem h
theorem Sub.trans {l l2 l3 : List (List Int)} (h : Sub l l2) (h2 : Sub l2 l3) : Sub l l3 := fun r hr => (h r hr).of h2
theorem Sub.ix {l l2 : List (List Int)} (h : ∀ i, i < l.length → InS l2 fun j => gE l i j) : Sub l l2 := fun r hr => by
  obtain ⟨i, hi, e⟩ := List.getElem_of_mem hr
  have := h i hi
  refine this.congr fun j => ?_
  unfold gE
  rw [List.getD_eq_getElem?_getD (l := l), List.getElem?_eq_getElem hi, e]
  rfl
theorem InS.ix {l : List (List Int)} {i : Nat} (hi : i < l.length) : InS l fun j => gE l i j := InS.mem (mem_getD hi)
theorem swap_len {l : List (List Int)} {i j : Nat} : (swapL l i j).length = l.length := by unfold swapL; rw [List.length_set, List.length_set]
theorem neg_len {l : List (List Int)} {i : Nat} : (negL l i).length = l.length := by unfold negL; rw [List.length_set]
theorem take_len {l : List (List Int)} {i j : Nat} {k : Int} : (takeL l i k j).length = l.length := by unfold takeL; rw [List.length_set]
theorem sub_swap {l : List (List Int)} {i j : Nat} (hi : i < l.length) (hj : j < l.length) : Sub (swapL l i j) l ∧ Sub l (swapL l i j) := by
  refine ⟨Sub.ix fun a ha => ?_, Sub.ix fun a ha => ?_⟩
  · rw [swap_len] at ha
    by_cases h1 : a = j
    · exact (InS.ix hi).congr fun b => by rw [gE_swap hi hj, if_pos h1]
    · by_cases h2 : a = i
      · exact (InS.ix hj).congr fun b => by rw [gE_swap hi hj, if_neg h1, if_pos h2]
      · exact (InS.ix ha).congr fun b => by rw [gE_swap hi hj, if_neg h1, if_neg h2]
  · by_cases h1 : a = i
    · exact (InS.ix (l := swapL l i j) (i := j) (by rw [swap_len]; exact hj)).congr fun b => by rw [gE_swap hi hj, if_pos rfl, h1]
    · by_cases h2 : a = j
      · exact (InS.ix (l := swapL l i j) (i := i) (by rw [swap_len]; exact hi)).congr fun b => by
          rw [gE_swap hi hj]
          by_cases h3 : i = j
          · exact absurd (h2.trans h3.symm) h1
          · rw [if_neg h3, if_pos rfl, h2]
      · exact (InS.ix (l := swapL l i j) (i := a) (by rw [swap_len]; exact ha)).congr fun b => by rw [gE_swap hi hj, if_neg h2, if_neg h1]
theorem sub_neg {l : List (List Int)} {i : Nat} (hi : i < l.length) : Sub (negL l i) l ∧ Sub l (negL l i) := by
  refine ⟨Sub.ix fun a ha => ?_, Sub.ix fun a ha => ?_⟩
  · rw [neg_len] at ha
    by_cases h1 : a = i
    · exact ((InS.ix hi).smul (k := -1)).congr fun b => by rw [gE_neg hi, if_pos h1]; omega
    · exact (InS.ix ha).congr fun b => by rw [gE_neg hi, if_neg h1]
  · by_cases h1 : a = i
    · exact ((InS.ix (l := negL l i) (i := i) (by rw [neg_len]; exact hi)).smul (k := -1)).congr fun b => by rw [gE_neg hi, if_pos rfl, h1]; omega
    · exact (InS.ix (l := negL l i) (i := a) (by rw [neg_len]; exact ha)).congr fun b => by rw [gE_neg hi, if_neg h1]
theorem sub_take {l : List (List Int)} {i j u : Nat} {k : Int} (hi : i < l.length) (hj : j < l.length) (hij : i ≠ j) (hu : ∀ q ∈ l, q.length = u) : Sub (takeL l i k j) l ∧ Sub l (takeL l i k j) := by
  refine ⟨Sub.ix fun a ha => ?_, Sub.ix fun a ha => ?_⟩
  · rw [take_len] at ha
    by_cases h1 : a = i
    · exact ((InS.ix hi).add ((InS.ix hj).smul (k := -k))).congr fun b => by rw [gE_take hi hj hu, if_pos h1, Int.neg_mul]; omega
    · exact (InS.ix ha).congr fun b => by rw [gE_take hi hj hu, if_neg h1]
  · by_cases h1 : a = i
    · exact ((InS.ix (l := takeL l i k j) (i := i) (by rw [take_len]; exact hi)).add ((InS.ix (l := takeL l i k j) (i := j) (by rw [take_len]; exact hj)).smul (k := k))).congr fun b => by
        rw [gE_take hi hj hu, if_pos rfl, gE_take hi hj hu, if_neg (fun z => hij z.symm), h1]
        omega
    · exact (InS.ix (l := takeL l i k j) (i := a) (by rw [take_len]; exact ha)).congr fun b => by rw [gE_take hi hj hu, if_neg h1]
theorem Reach.span {n w : Nat} {s0 s : WS} (h : Reach n w s0 s) : Sub s.r s0.r ∧ Sub s0.r s.r := by
  induction h with
  | refl => exact ⟨.refl, .refl⟩
  | swap _ hw hi hj hij ih =>
    have := sub_swap (l := _) (i := _) (j := _) (by rw [hw.r]; exact hi) (by rw [hw.r]; exact hj)
    exact ⟨this.1.trans ih.1, ih.2.trans this.2⟩
  | turn _ hw hi ih =>
    have := sub_neg (l := _) (i := _) (by rw [hw.r]; exact hi)
    exact ⟨this.1.trans ih.1, ih.2.trans this.2⟩
  | @take s i j k _ hw hi hj hij ih =>
    have := sub_take (l := s.r) (i := i) (j := j) (k := k) (by rw [hw.r]; exact hi) (by rw [hw.r]; exact hj) hij hw.rw
    exact ⟨this.1.trans ih.1, ih.2.trans this.2⟩
/-! ### the form, and that there is one only -/
structure HF (h : List (List Int)) (w r : Nat) (pc : Nat → Nat) : Prop where
  le : r ≤ h.length
  wid : ∀ q ∈ h, q.length = w
  lt : ∀ i, i < r → pc i < w
  inc : ∀ i j, i < j → j < r → pc i < pc j
  left : ∀ i, i < r → ∀ j, j < pc i → gE h i j = 0
  pos : ∀ i, i < r → 0 < gE h i (pc i)
  abv : ∀ k i, k < i → i < r → 0 ≤ gE h k (pc i) ∧ gE h k (pc i) < gE h i (pc i)
  low : ∀ i, r ≤ i → ∀ j, gE h i j = 0
theorem InS.van {v : Nat → Int} {j : Nat} : ∀ {l : List (List Int)}, InS l v → (∀ r ∈ l, r.getD j 0 = 0) → v j = 0
  | [], h, _ => h j
  | r :: rs, ⟨c, h⟩, q => by
    have := h.van fun x hx => q x (List.mem_cons_of_mem _ hx)
    have e := q r List.mem_cons_self
    try dsimp only at this
    rw [e, Int.mul_zero] at this
    omega
theorem gE_wide {h : List (List Int)} {w i j : Nat} (hw : ∀ q ∈ h, q.length = w) (hj : w ≤ j) : gE h i j = 0 := by
  unfold gE
  by_cases hi : i < h.length
  · rw [List.getD_eq_getElem?_getD (l := h.getD i []), List.getElem?_eq_none (by rw [hw _ (mem_getD hi)]; exact hj)]
    rfl
  · rw [List.getD_eq_getElem?_getD (l := h), List.getElem?_eq_none (by omega)]
    rfl
theorem drop_mem {h : List (List Int)} {k : Nat} {q : List Int} (hq : q ∈ h.drop k) : ∃ i, k ≤ i ∧ i < h.length ∧ ∀ j, q.getD j 0 = gE h i j := by
  obtain ⟨i, hi, e⟩ := List.getElem_of_mem hq
  rw [List.length_drop] at hi
  rw [List.getElem_drop] at e
  refine ⟨k + i, by omega, by omega, fun j => ?_⟩
  unfold gE
  rw [List.getD_eq_getElem?_getD (l := h), List.getElem?_eq_getElem (by omega), ← e]
  rfl
theorem HF.van {h : List (List Int)} {w r k : Nat} {pc : Nat → Nat} (f : HF h w r pc) (hk : k < r) {j : Nat} (hj : j ≤ pc k) : ∀ q ∈ h.drop (k + 1), q.getD j 0 = 0 := fun q hq => by
  obtain ⟨i, h1, h2, e⟩ := drop_mem hq
  rw [e]
  by_cases hi : i < r
  · exact f.left i hi j (Nat.lt_of_le_of_lt hj (f.inc k i (by omega) hi))
  · exact f.low i (by omega) j
theorem HF.lead {h : List (List Int)} {w r : Nat} {pc : Nat → Nat} (f : HF h w r pc) {p : Nat} : ∀ (d k : Nat) (v : Nat → Int), h.length - k = d → InS (h.drop k) v → (∀ j, j < p → v j = 0) → v p ≠ 0 → ∃ i, i < r ∧ pc i = p ∧ gE h i p ∣ v p := fun d => by
  induction d with
  | zero =>
    intro k v hd hv _ hp
    rw [List.drop_of_length_le (by omega)] at hv
    exact absurd (hv p) hp
  | succ d ih =>
    intro k v hd hv h0 hp
    have hk : k < h.length := by omega
    by_cases hkr : k < r
    · rw [List.drop_eq_getElem_cons hk] at hv
      obtain ⟨c, hc⟩ := hv
      have eg : ∀ j, h[k].getD j 0 = gE h k j := fun j => by
        unfold gE
        rw [List.getD_eq_getElem?_getD (l := h), List.getElem?_eq_getElem hk]
        rfl
      have e1 : ∀ j, j ≤ pc k → v j = c * gE h k j := fun j hj => by
        have := hc.van (j := j) (f.van hkr hj)
        try dsimp only at this
        rw [eg] at this
        omega
      rcases Nat.lt_trichotomy p (pc k) with hlt | heq | hgt
      · exact absurd (by rw [e1 p (by omega), f.left k hkr p hlt, Int.mul_zero]) hp
      · exact ⟨k, hkr, heq.symm, by rw [e1 p (by omega)]; exact Int.dvd_mul_left _ _⟩
      · have e2 := e1 (pc k) (Nat.le_refl _)
        rw [h0 (pc k) hgt] at e2
        have hc0 : c = 0 := by
          rcases Int.mul_eq_zero.mp e2.symm with z | z
          · exact z
          · have := f.pos k hkr; omega
        exact ih (k + 1) v (by omega) (hc.congr fun j => by rw [hc0]; omega) h0 hp
    · have : v p = 0 := hv.van fun q hq => by
        obtain ⟨i, h1, h2, e⟩ := drop_mem hq
        rw [e]
        exact f.low i (by omega) p
      exact absurd this hp
theorem HF.lead0 {h : List (List Int)} {w r : Nat} {pc : Nat → Nat} (f : HF h w r pc) {p : Nat} {v : Nat → Int} (hv : InS h v) (h0 : ∀ j, j < p → v j = 0) (hp : v p ≠ 0) : ∃ i, i < r ∧ pc i = p ∧ gE h i p ∣ v p := f.lead _ 0 v rfl hv h0 hp
theorem HF.cols {h h2 : List (List Int)} {w r r2 : Nat} {pc pc2 : Nat → Nat} (f : HF h w r pc) (f2 : HF h2 w r2 pc2) (s1 : Sub h h2) (s2 : Sub h2 h) : ∀ i, (i < r → i < r2 ∧ pc i = pc2 i) ∧ (i < r2 → i < r) := fun i => by
  induction i using Nat.strongRecOn with
  | _ i ih =>
    have a1 : i < r → ∃ k, i ≤ k ∧ k < r2 ∧ pc2 k = pc i := fun hi => by
      obtain ⟨k, hk, e, _⟩ := f2.lead0 (s1 _ (mem_getD (a0 := []) (show i < h.length by have := f.le; omega))) (fun j hj => f.left i hi j hj) (by have := f.pos i hi; unfold gE at this; omega)
      refine ⟨k, ?_, hk, e⟩
      rcases Nat.lt_or_ge k i with h | h
      · have := (ih k h).2 hk
        have e3 := ((ih k h).1 this).2
        have := f.inc k i h hi
        omega
      · exact h
    have a2 : i < r2 → ∃ k, i ≤ k ∧ k < r ∧ pc k = pc2 i := fun hi => by
      obtain ⟨k, hk, e, _⟩ := f.lead0 (s2 _ (mem_getD (a0 := []) (show i < h2.length by have := f2.le; omega))) (fun j hj => f2.left i hi j hj) (by have := f2.pos i hi; unfold gE at this; omega)
      refine ⟨k, ?_, hk, e⟩
      rcases Nat.lt_or_ge k i with h | h
      · have e3 := (ih k h).1 hk
        have := f2.inc k i h hi
        omega
      · exact h
    refine ⟨fun hi => ?_, fun hi => ?_⟩
    · obtain ⟨k, h1, h2, e⟩ := a1 hi
      have hi2 : i < r2 := by omega
      obtain ⟨k2, h3, h4, e2⟩ := a2 hi2
      refine ⟨hi2, ?_⟩
      have m1 : pc2 i ≤ pc2 k := by
        rcases Nat.eq_or_lt_of_le h1 with z | z
        · rw [z]; exact Nat.le_refl _
        · exact Nat.le_of_lt (f2.inc i k z h2)
      have m2 : pc i ≤ pc k2 := by
        rcases Nat.eq_or_lt_of_le h3 with z | z
        · rw [z]; exact Nat.le_refl _
        · exact Nat.le_of_lt (f.inc i k2 z h4)
      omega
    · obtain ⟨k2, h3, h4, e2⟩ := a2 hi
      omega
theorem dvd_pos_eq {a b : Int} (ha : 0 < a) (hb : 0 < b) (h1 : a ∣ b) (h2 : b ∣ a) : a = b := by
  have := Int.le_of_dvd hb h1
  have := Int.le_of_dvd ha h2
  omega
theorem rows_eq {h h2 : List (List Int)} {w : Nat} (hl : h.length = h2.length) (w1 : ∀ q ∈ h, q.length = w) (w2 : ∀ q ∈ h2, q.length = w) (he : ∀ i j, gE h i j = gE h2 i j) : h = h2 := by
  refine List.ext_getElem hl fun i h1 h3 => ?_
  have e1 := w1 _ (List.getElem_mem h1)
  have e2 := w2 _ (List.getElem_mem h3)
  refine List.ext_getElem (by rw [e1, e2]) fun j h4 h5 => ?_
  have := he i j
  unfold gE at this
  rw [List.getD_eq_getElem?_getD (l := h), List.getD_eq_getElem?_getD (l := h2), List.getElem?_eq_getElem h1, List.getElem?_eq_getElem h3] at this
  simp only [Option.getD_some, List.getD_eq_getElem?_getD] at this
  rw [List.getElem?_eq_getElem h4, List.getElem?_eq_getElem h5] at this
  exact this
theorem HF.uniq {h h2 : List (List Int)} {w r r2 : Nat} {pc pc2 : Nat → Nat} (f : HF h w r pc) (f2 : HF h2 w r2 pc2) (hl : h.length = h2.length) (s1 : Sub h h2) (s2 : Sub h2 h) : h = h2 := by
  have cs := f.cols f2 s1 s2
  have hr : r = r2 := by
    rcases Nat.lt_trichotomy r r2 with z | z | z
    · have := (cs r).2 z; omega
    · exact z
    · have := ((cs r2).1 z).1; omega
  subst hr
  have hpv : ∀ i, i < r → gE h i (pc i) = gE h2 i (pc i) := fun i hi => by
    have ep := ((cs i).1 hi).2
    obtain ⟨k, hk, e, d1⟩ := f2.lead0 (s1 _ (mem_getD (a0 := []) (show i < h.length by have := f.le; omega))) (fun j hj => f.left i hi j hj) (by have := f.pos i hi; unfold gE at this; omega)
    obtain ⟨k2, hk2, e2, d2⟩ := f.lead0 (s2 _ (mem_getD (a0 := []) (show i < h2.length by have := f2.le; omega))) (fun j hj => f2.left i hi j hj) (by have := f2.pos i hi; unfold gE at this; omega)
    have ek : k = i := by
      rcases Nat.lt_trichotomy k i with z | z | z
      · have := f2.inc k i z hi; omega
      · exact z
      · have := f2.inc i k z hk; omega
    have ek2 : k2 = i := by
      have := ((cs k2).1 hk2).2
      rcases Nat.lt_trichotomy k2 i with z | z | z
      · have := f.inc k2 i z hi; omega
      · exact z
      · have := f.inc i k2 z hk2; omega
    subst ek
    subst ek2
    have p1 := f.pos _ hi
    have p2 := f2.pos _ hi
    rw [ep] at p1 d1 ⊢
    exact dvd_pos_eq p1 p2 d2 d1
  refine rows_eq hl f.wid f2.wid fun i j => ?_
  by_cases hi : i < r
  · have hin : InS h fun j => gE h i j - gE h2 i j := ((InS.ix (show i < h.length by have := f.le; omega)).add ((s2 _ (mem_getD (a0 := []) (show i < h2.length by have := f2.le; omega))).smul (k := -1))).congr fun j => by
      show gE h i j + -1 * gE h2 i j = _
      omega
    have all : ∀ p, ∀ j, j < p → gE h i j - gE h2 i j = 0 := fun p => by
      induction p with
      | zero => exact fun j hj => absurd hj (Nat.not_lt_zero j)
      | succ p ih =>
        intro j hj
        by_cases hjp : j < p
        · exact ih j hjp
        · have ejp : j = p := by omega
          subst ejp
          by_cases hz : gE h i j - gE h2 i j = 0
          · exact hz
          · obtain ⟨k, hk, ek, dv⟩ := f.lead0 hin ih hz
            have epi := ((cs i).1 hi).2
            have epk := ((cs k).1 hk).2
            rcases Nat.lt_trichotomy k i with z | z | z
            · have l1 := f.inc k i z hi
              have := f.left i hi j (by omega)
              have := f2.left i hi j (by omega)
              omega
            · subst z
              have := hpv k hk
              rw [ek] at this
              omega
            · have b1 := f.abv i k z hk
              have b2 := f2.abv i k z hk
              have e3 := hpv k hk
              rw [← epk] at b2
              rw [ek] at b1 b2 e3
              rw [← e3] at b2
              exfalso
              obtain ⟨q, hq⟩ := dv
              try dsimp only at hq
              have p0 := f.pos k hk
              rw [ek] at p0
              have hq0 : q = 0 := by
                rcases Int.lt_trichotomy q 0 with z | z | z
                · have : gE h k j * q ≤ gE h k j * (-1) := Int.mul_le_mul_of_nonneg_left (by omega) (by omega)
                  omega
                · exact z
                · have : gE h k j * 1 ≤ gE h k j * q := Int.mul_le_mul_of_nonneg_left (by omega) (by omega)
                  omega
              rw [hq0, Int.mul_zero] at hq
              exact hz hq
    have := all (j + 1) j (by omega)
    omega
  · rw [f.low i (by omega), f2.low i (by omega)]
end
end
section
section
variable {g : Pg}
def HOf (a h : List (List Int)) : Prop := ∃ mm, Mx a ∧ hwOk a (wd a) mm ∧ Cst a (wd a) (hw a mm (wd a)) ∧ h = (hw a mm (wd a)).1.r
theorem hof_ex {a : List (List Int)} (h : Mx a) : ∃ H, HOf a H := by
  obtain ⟨mm, h1, h2⟩ := hermite_ex h
  exact ⟨_, mm, h, h1, h2, rfl⟩
end
section
/-- a loop that leaves by one and the same return -/
theorem SB.forB {C : Cc} {E E0 : List O} {M M0 : Mem} {n : Nat} {it : Nat → O} {inv : Mem → Prop} {tg iter : Expr} {body rest : List Stmt} {pos : Pos} {good : Nat → Bool} {out : O} {r : Out} (hs : EI C tg iter E M n it M0 inv) (hE : Fg E E0) (hinv : inv M0)
    (step : ∀ i, i < n → ∃ E1, EG C tg (it i) E0 M0 E1 M0 ∧ (good i = true → ∃ E2, Fg E2 E0 ∧ SB C body E1 M0 (.nx E2 M0)) ∧ (good i = false → SB C body E1 M0 (.rt out M0)))
    (hrest : (List.range n).all good = true → SB C rest E0 M0 r) (hbad : (List.range n).all good = false → r = .rt out M0) (hf : ∀ env x, foldedSetIterable iter env x = pure x := by intro _ _; rfl) : SB C (.For tg iter body [] pos :: rest) E M r := by
  by_cases hall : (List.range n).all good = true
  · have ha : ∀ i, i < n → good i = true := fun i hi => List.all_eq_true.mp hall i (List.mem_range.mpr hi)
    refine SB.cons (ST.for (m := n) (n := n) (E_ := fun _ => E0) (M_ := fun _ => M0) hs hE rfl (Nat.le_refl _) (fun _ _ => hinv) (fun i hi => ?_) (.inl ⟨rfl, rfl⟩) hf) (hrest hall)
    obtain ⟨E1, h1, h2, _⟩ := step i hi
    obtain ⟨E2, h4, h5⟩ := h2 (ha i hi)
    exact ⟨E1, M0, E2, h1, h4, .inl h5⟩
  · have hex : ∃ i, i < n ∧ good i = false := by
      rw [Bool.not_eq_true, List.all_eq_false] at hall
      obtain ⟨i, hi, h⟩ := hall
      exact ⟨i, List.mem_range.mp hi, by simpa using h⟩
    obtain ⟨i, hi, hg⟩ := hex
    obtain ⟨k, hk, hkp, hmin⟩ := least (P := fun j => j < n ∧ good j = false) i ⟨hi, hg⟩
    rw [hbad (by simpa using hall)]
    obtain ⟨E1, h1, _, h3⟩ := step k hkp.1
    refine SB.stop (ST.for (m := k) (n := n) (E_ := fun _ => E0) (M_ := fun _ => M0) hs hE rfl (Nat.le_of_lt hkp.1) (fun _ _ => hinv) (fun j hj => ?_) (.inr ⟨hkp.1, E1, M0, h1, .inl ⟨out, M0, h3 hkp.2, rfl⟩⟩) hf)
    obtain ⟨E1', h1', h2', _⟩ := step j (by omega)
    have hgj : good j = true := by
      cases h : good j with
      | true => rfl
      | false => exact absurd ⟨by omega, h⟩ (hmin j hj)
    obtain ⟨E2, h4, h5⟩ := h2' hgj
    exact ⟨E1', M0, E2, h1', h4, .inl h5⟩
end
section
variable {g : Pg}
/-- a row among those ahead -/
def inR (m : List (List Int)) (i : Nat) : Bool := match leadF (m.getD i []) with
  | none => true
  | some p => !(decide ((m.getD i []).getD p 0 < 0) || !(m.take i).all fun q => decide (0 ≤ q.getD p 0) && decide (q.getD p 0 < (m.getD i []).getD p 0))
def inB (m : List (List Int)) : Bool := echB m && (List.range m.length).all (inR m)
theorem leadF_lt {v : List Int} {p : Nat} (h : leadF v = some p) : p < v.length ∧ v.getD p 0 ≠ 0 ∧ ∀ j, j < p → v.getD j 0 = 0 := by
  obtain ⟨h1, h2, h3⟩ := List.findIdx?_eq_some_iff_getElem.mp h
  refine ⟨h1, ?_, fun j hj => ?_⟩
  · rw [List.getD_eq_getElem?_getD, List.getElem?_eq_getElem h1]
    simpa using h2
  · have := h3 j hj
    rw [List.getD_eq_getElem?_getD, List.getElem?_eq_getElem (by omega)]
    simpa using this
theorem leadF_none {v : List Int} (h : leadF v = none) : ∀ j, v.getD j 0 = 0 := fun j => by
  by_cases hj : j < v.length
  · have := List.findIdx?_eq_none_iff.mp h v[j] (List.getElem_mem hj)
    rw [List.getD_eq_getElem?_getD, List.getElem?_eq_getElem hj]
    simpa using this
  · rw [List.getD_eq_getElem?_getD, List.getElem?_eq_none (by omega)]
    rfl
theorem cutD_nat {α : Type} {xs : List α} {i : Nat} (hi : i ≤ xs.length) : cutD xs none (some (i : Int)) = xs.take i := by
  unfold cutD
  have e1 : HT.sIx xs.length 0 none = 0 := rfl
  have e2 : HT.sIx xs.length xs.length (some (i : Int)) = i := by rw [HT.sIx_nat]; omega
  rw [e1, e2]
  rfl
theorem ok_in_form (W : Wd g) : FN g "in_form" 3 (P1 fun d r => ∃ m, d = tM m ∧ m.length < 100000 ∧ (∀ q ∈ m, q.length = wd m) ∧ r = .bl (inB m)) := by
  refine FN.mk1 W.t_in_form c_in_form (fun _ _ _ _ _ _ us hl => match us, hl with | [_], _ => rfl) (fun d r h => ?_)
  obtain ⟨m, rfl, hz, hw, rfl⟩ := h
  have hlen : (m.map tV).length = m.length := List.length_map _
  refine SB.guard (ET.not (ET.val (EV.c1 (ok_is_echelon W) (EV.nm 0) ⟨m, rfl, rfl⟩))) (fun z => ?_) (fun z => ?_)
  · have e : echB m = false := by simpa using z
    refine SB.one (ST.ret (EV.to EV.bl ?_))
    unfold inB
    rw [e, Bool.false_and]
  · have e : echB m = true := by simpa using z
    have er : inB m = (List.range m.length).all (inR m) := by
      unfold inB
      rw [e, Bool.true_and]
    rw [er]
    refine SB.forB (n := m.length) (E0 := [.dat (tM m), .no, .no, .no, .no]) (M0 := []) (good := inR m) (out := .dat (.bl false)) (hlen ▸ EI.enum (EV.nm 0) W.b.enumerate) Fg.refl True.intro (fun i hi => ?_) (fun h => SB.one (ST.ret (EV.to EV.bl (by rw [h])))) (fun h => by rw [h])
    have hat : atN (m.map tV) i = .dat (.tup [.int (i : Int), tV (m.getD i [])]) := by
      unfold atN
      rw [List.getD_eq_getElem?_getD, List.getElem?_map, List.getElem?_eq_getElem hi, List.getD_eq_getElem?_getD, List.getElem?_eq_getElem hi]
      rfl
    rw [hat]
    refine ⟨[.dat (tM m), .dat (.int (i : Int)), .dat (tV (m.getD i [])), .no, .no], EG.tup (ds := [.int (i : Int), tV (m.getD i [])]) (EGs.cons (EG.nm 1 c_in_form.nd) (EGs.cons (EG.nm 2 c_in_form.nd) EGs.nil)), ?_⟩
    have fg : ∀ o, Fg ([.dat (tM m), .dat (.int (i : Int)), .dat (tV (m.getD i [])), o, .no] : List O) [.dat (tM m), .no, .no, .no, .no] := fun o => Fg.cons (Fg.no (Fg.no (Fg.no (Fg.no Fg.nil))))
    cases hl : leadF (m.getD i []) with
    | none =>
      have e1 : inR m i = true := by
        unfold inR
        rw [hl]
      rw [e1]
      exact ⟨fun _ => ⟨_, fg _, SB.cons (ST.set 3 (EV.to (EV.c1 (ok_lead W) (EV.nm 2) ⟨_, rfl, rfl⟩) (by rw [hl])) c_in_form.nd) (SB.one (ST.no (ET.to (ET.notN (d := .non) (EV.nm 3)) rfl) SB.nil))⟩, fun z => nomatch z⟩
    | some p =>
      obtain ⟨hp, _, _⟩ := leadF_lt hl
      have e1 : inR m i = !(decide ((m.getD i []).getD p 0 < 0) || !((m.take i).map fun q => decide (0 ≤ q.getD p 0) && decide (q.getD p 0 < (m.getD i []).getD p 0)).all id) := by
        unfold inR
        rw [hl, all_map]
      have test : ET (mkC g n_in_form s_in_form 2) (ifOf ((thenOf ((bodyOf ((defBody s_in_form).getD 1 (.Pass ⟨0, 0, 0, 0⟩))).getD 1 (.Pass ⟨0, 0, 0, 0⟩))).getD 0 (.Pass ⟨0, 0, 0, 0⟩))) [.dat (tM m), .dat (.int (i : Int)), .dat (tV (m.getD i [])), .dat (.int (p : Int)), .no] [] (!inR m i) [] := by
        rw [e1, Bool.not_not]
        refine EW.et (EW.or (ET.cm (EV.ix (EV.nm 2) (EV.nm 3) (ix_tV hp)) EV.int CS.ltI) (fun _ => EW.or1 (ET.not (ET.val (EV.all (bs := (m.take i).map fun q => decide (0 ≤ q.getD p 0) && decide (q.getD p 0 < (m.getD i []).getD p 0)) ?_ W.b.all)))) (fun _ => rfl))
        rw [List.map_map]
        refine LC.ev (LC.lM 4 (xs := m.take i) (f := tV) (own := [("above", 4)]) (by rfl) c_in_form.nd rfl (EV.slT (ds := m.map tV) (EV.nm 0) EO.none (EO.some (EV.nm 1))) (by rw [cutD_nat (by rw [hlen]; omega), ← List.map_take]; rfl) (Nat.le_refl _) OkM.refl (by rw [List.length_take]; omega) (fun q hq M => ?_))
        have hql : p < q.length := by
          rw [hw q (List.mem_of_mem_take hq)]
          rw [hw _ (mem_getD hi)] at hp
          exact hp
        exact EV.chain (M4 := M) EV.int (EV.ix (EV.nm 4) (EV.nm 3) (ix_tV hql)) CS.leI (fun _ => EV.ix (EV.nm 2) (EV.nm 3) (ix_tV hp)) (fun _ => CS.ltI) (fun _ => rfl)
      have first : ∀ {r : Out}, SB (mkC g n_in_form s_in_form 2) ((bodyOf ((defBody s_in_form).getD 1 (.Pass ⟨0, 0, 0, 0⟩))).drop 1) [.dat (tM m), .dat (.int (i : Int)), .dat (tV (m.getD i [])), .dat (.int (p : Int)), .no] [] r → SB (mkC g n_in_form s_in_form 2) (bodyOf ((defBody s_in_form).getD 1 (.Pass ⟨0, 0, 0, 0⟩))) [.dat (tM m), .dat (.int (i : Int)), .dat (tV (m.getD i [])), .no, .no] [] r := fun h => SB.cons (ST.set 3 (EV.to (EV.c1 (ok_lead W) (EV.nm 2) ⟨_, rfl, rfl⟩) (by rw [hl]; rfl)) c_in_form.nd) h
      refine ⟨fun hg => ⟨_, fg (.dat (.int (p : Int))), first (SB.one (ST.yes (ET.to (ET.notN (d := .int (p : Int)) (EV.nm 3)) rfl) (SB.one (ST.no (ET.to test (by rw [hg]; rfl)) SB.nil))))⟩, fun hg => first (SB.one (ST.yes (ET.to (ET.notN (d := .int (p : Int)) (EV.nm 3)) rfl) (SB.one (ST.yes (ET.to test (by rw [hg]; rfl)) (SB.one (ST.ret EV.bl))))))⟩
end
end
section
/-! ### what is drawn -/
section
variable {g : Pg}
abbrev rowC (ns : List Int) : Option (List O) := some ((ns.map D.int).map O.dat)
def tk (ns : List Int) (b : Int) : Int := ns.getLastD 0 % b
theorem tk_pos {ns : List Int} {b : Int} (h : 0 < b) : 0 ≤ tk ns b ∧ tk ns b < b := ⟨Int.emod_nonneg _ (by omega), Int.emod_lt_of_pos _ h⟩
def takeD : Rel := fun os M o M' => ∃ (ns : List Int) (b : Int), 0 < b ∧ os = [.adr 0, .dat (.int b)] ∧ M = [rowC ns] ∧ o = .dat (.int (tk ns b)) ∧ M' = [rowC ns.dropLast]
theorem last_at {ns : List Int} (h : ns ≠ []) : ((ns.map D.int).map O.dat)[((ns.map D.int).map O.dat).length - 1]? = some (.dat (.int (ns.getLastD 0))) := by
  rw [List.length_map, List.length_map, List.getElem?_map, List.getElem?_map]
  have : ns[ns.length - 1]? = some (ns.getLastD 0) := by
    rw [← List.getLast?_eq_getElem?, List.getLast?_eq_some_getLast h, List.getLastD_eq_getLast?, List.getLast?_eq_some_getLast h]
    rfl
  rw [this]
  rfl
theorem ok_law_take (W : Wd g) : FN g "_law_take" 1 takeD := by
  refine FN.mk W.t_law_take c_law_take (fun _ _ _ _ _ _ us hl => match us, hl with | [_, _], _ => rfl) (fun os M o M' h => by obtain ⟨ns, b, _, rfl, _⟩ := h; rfl) (fun os M o M' h => ?_)
  obtain ⟨ns, b, hb, rfl, rfl, rfl, rfl⟩ := h
  have hl : ((ns.map D.int).map O.dat).length = ns.length := by rw [List.length_map, List.length_map]
  refine SB.guard (ET.cm (EV.lenC (EV.nm 0) rfl W.b.len) EV.int CS.eqI) (fun z => ?_) (fun z => ?_)
  · rw [hl] at z
    have e : ns = [] := List.eq_nil_of_length_eq_zero (by have := of_decide_eq_true z; omega)
    subst e
    exact SB.one (ST.ret (EV.to EV.int rfl))
  · rw [hl] at z
    have e : ns ≠ [] := fun e => by
      subst e
      exact absurd z (by decide)
    refine SB.one (ST.to (ST.ret (EV.mod (EV.intI (EV.pop (EV.nm 0) rfl (last_at e)) W.b.int) (EV.nm 1) hb)) ?_)
    show Out.rt _ [some (((ns.map D.int).map O.dat).dropLast)] = _
    rw [← List.map_dropLast, ← List.map_dropLast]
    rfl
theorem ev_tk {C : Cc} {E : List O} {M M1 M2 M' : Mem} {a b : Expr} {p pos : Pos} {n : Nat} {ns : List Int} {j : Int} (F : FN C.g "_law_take" 1 takeD) (ha : EV C a E M (.adr n) M1) (hb : EV C b E M1 (.dat (.int j)) M2) (hc : M2[n]? = some (rowC ns)) (hj : 0 < j) (hk : Nat.ble 1 C.k = true := by rfl)
    (hg : C.sc.names.lookup ("_law_take" : Str) = some .globalImplicit := by rfl) (he : ∀ env, starEach [a, b] env = (false, eval a env) :: starEach [b] env := by intro _; rfl) (he2 : ∀ env, starEach [b] env = (false, eval b env) :: starEach [] env := by intro _; rfl) (hpl : ∀ env, (backTo pos (starEach [b] env)).any (·.1) = false := by intro _; rfl) (hM : M' = M2.set n (rowC ns.dropLast) := by rfl) :
    EV C (.Call (.Name "_law_take" p) [a, b] [] pos) E M (.dat (.int (tk ns j))) M' := by
  subst hM
  exact EV.call1 (ds := [.int j]) (cs := ns.map D.int) (cs' := ns.dropLast.map D.int) F (EA.cons ha (EA.cons hb EA.nil he2) he) hc ⟨ns, j, hj, rfl, rfl, rfl, rfl⟩ hk hg (by decide) he hpl
/-! ### alike -/
def Fit : Nat → D → Prop
  | _, .non => True
  | _, .bl _ => True
  | _, .int _ => True
  | _, .str _ => True
  | n + 1, .tup ds => ds.length < 100000 ∧ ∀ x ∈ ds, Fit n x
  | n + 1, .lst ds => ds.length < 100000 ∧ ∀ x ∈ ds, Fit n x
  | _, _ => False
theorem like_flat {kk : Nat} (W : Wd g) {e : D} (hf : Fit 0 e) : SB (mkC g n_law_like s_law_like kk) (defBody s_law_like) (pad n_law_like [.dat e, .dat e]) [] (.rt (.dat (.bl true)) []) := by
  cases e with
  | bl k => exact SB.stop (ST.yes (ET.to (ET.val (EV.isBool (EV.nm 1) W.b.isinstance W.b.bool)) rfl) (SB.one (ST.ret (EV.to (EV.and (EV.isBool (EV.nm 0) W.b.isinstance W.b.bool) (fun _ => EV.and1 (EV.cm (EV.nm 0) (EV.nm 1) CS.eqB)) (fun _ => rfl)) (by cases k <;> rfl)))))
  | int i =>
    exact SB.cons (ST.no (ET.to (ET.val (EV.isBool (EV.nm 1) W.b.isinstance W.b.bool)) rfl) SB.nil) (SB.stop (ST.yes (ET.to (ET.val (EV.isInt (EV.nm 1) W.b.isinstance W.b.int)) rfl) (SB.one (ST.ret (EV.to (EV.and (EV.isInt (EV.nm 0) W.b.isinstance W.b.int) (fun _ => EV.and (EV.not (EV.isBool (EV.nm 0) W.b.isinstance W.b.bool)) (fun _ => EV.and1 (EV.cm (EV.nm 0) (EV.nm 1) CS.eqI)) (fun _ => rfl)) (fun _ => rfl)) (by simp [D.isInt, D.isBl]))))))
  | str x =>
    exact SB.cons (ST.no (ET.to (ET.val (EV.isBool (EV.nm 1) W.b.isinstance W.b.bool)) rfl) SB.nil) (SB.cons (ST.no (ET.to (ET.val (EV.isInt (EV.nm 1) W.b.isinstance W.b.int)) rfl) SB.nil) (SB.stop (ST.yes (ET.to (ET.val (EV.isStr (EV.nm 1) W.b.isinstance W.b.str)) rfl) (SB.one (ST.ret (EV.to (EV.and (EV.isStr (EV.nm 0) W.b.isinstance W.b.str) (fun _ => EV.and1 (EV.cm (EV.nm 0) (EV.nm 1) CS.eqS)) (fun _ => rfl)) (by simp [D.isStr])))))))
  | non =>
    exact SB.cons (ST.no (ET.to (ET.val (EV.isBool (EV.nm 1) W.b.isinstance W.b.bool)) rfl) SB.nil) (SB.cons (ST.no (ET.to (ET.val (EV.isInt (EV.nm 1) W.b.isinstance W.b.int)) rfl) SB.nil) (SB.cons (ST.no (ET.to (ET.val (EV.isStr (EV.nm 1) W.b.isinstance W.b.str)) rfl) SB.nil) (SB.stop (ST.yes (ET.to (ET.isN (EV.nm 1)) rfl) (SB.one (ST.ret (EV.to (EV.isN (EV.nm 0)) rfl)))))))
  | tup ds => exact hf.elim
  | lst ds => exact hf.elim
  | dct ks ds => exact hf.elim
theorem ok_law_like (W : Wd g) : ∀ n : Nat, FN g "_law_like" (n + 1) (P2 fun d e r => e = d ∧ Fit n d ∧ r = .bl true) := fun n => by
  induction n with
  | zero =>
    refine FN.mk2 W.t_law_like c_law_like (fun _ _ _ _ _ _ us hl => match us, hl with | [_, _], _ => rfl) (fun d e r h => ?_)
    obtain ⟨rfl, hf, rfl⟩ := h
    exact like_flat W hf
  | succ n ih =>
    refine FN.mk2 W.t_law_like c_law_like (fun _ _ _ _ _ _ us hl => match us, hl with | [_, _], _ => rfl) (fun d e r h => ?_)
    obtain ⟨rfl, hf, rfl⟩ := h
    have loop : ∀ {ds : List D}, seqD e = some ds → ds.length < 100000 → (∀ x ∈ ds, Fit n x) → SB (mkC g n_law_like s_law_like (n + 1)) ((defBody s_law_like).drop 6) (pad n_law_like [.dat e, .dat e]) [] (.rt (.dat (.bl true)) []) := fun {ds} hs hl hx => by
      have hlen := (seq_of hs).2
      refine SB.cons (ST.no (ET.to (ET.cm (EV.len (EV.nm 0) hlen W.b.len) (EV.len (EV.nm 1) hlen W.b.len) CS.neI) (by simp)) SB.nil) (SB.cons (ST.forN 2 (E_ := fun _ => [.dat e, .dat e, .no]) (M_ := fun _ => []) (EI.rng1 (EV.len (EV.nm 1) hlen W.b.len) W.b.range (by omega)) Fg.refl rfl (fun _ _ => True.intro) c_law_like.nd (fun i hi => ?_)) (SB.one (ST.ret EV.bl)))
      have hi' : i < ds.length := by omega
      have hix : ixD e ((i : Nat) : Int) = some ds[i] := by
        cases e <;> first | (cases hs; exact atI_nat (List.getElem?_eq_getElem hi')) | cases hs
      refine ⟨[.dat e, .dat e, .dat (.int (i : Int))], Fg.cons (Fg.cons (Fg.no Fg.nil)), ?_⟩
      have hset : ([.dat e, .dat e, .no] : List O).set 2 (atI0 0 i) = [.dat e, .dat e, .dat (.int (i : Int))] := by
        show [O.dat e, O.dat e, O.dat (.int (0 + (i : Int)))] = _
        rw [Int.zero_add]
      rw [hset]
      exact SB.one (ST.no (ET.to (ET.not (ET.val (EV.c2 ih (EV.ix (EV.nm 0) (EV.nm 2) hix) (EV.ix (EV.nm 1) (EV.nm 2) hix) ⟨rfl, hx _ (List.getElem_mem hi'), rfl⟩ (Nat.ble_eq_true_of_le (Nat.le_refl _))))) rfl) SB.nil)
    cases e with
    | tup ds =>
      exact SB.cons (ST.no (ET.to (ET.val (EV.isBool (EV.nm 1) W.b.isinstance W.b.bool)) rfl) SB.nil) (SB.cons (ST.no (ET.to (ET.val (EV.isInt (EV.nm 1) W.b.isinstance W.b.int)) rfl) SB.nil) (SB.cons (ST.no (ET.to (ET.val (EV.isStr (EV.nm 1) W.b.isinstance W.b.str)) rfl) SB.nil) (SB.cons (ST.no (ET.to (ET.isN (EV.nm 1)) rfl) SB.nil)
        (SB.cons (ST.no (ET.to (EW.et (EW.and (ET.val (EV.isTuple (EV.nm 1) W.b.isinstance W.b.tuple)) (fun _ => EW.and1 (ET.not (ET.val (EV.isTuple (EV.nm 0) W.b.isinstance W.b.tuple)))) (fun _ => rfl))) rfl) SB.nil)
        (SB.cons (ST.no (ET.to (EW.et (EW.and (k1 := false) (k2 := true) (ET.to (ET.val (EV.isList (EV.nm 1) W.b.isinstance W.b.list)) rfl) (fun z => nomatch z) (fun _ => rfl))) rfl) SB.nil) (loop rfl hf.1 hf.2))))))
    | lst ds =>
      exact SB.cons (ST.no (ET.to (ET.val (EV.isBool (EV.nm 1) W.b.isinstance W.b.bool)) rfl) SB.nil) (SB.cons (ST.no (ET.to (ET.val (EV.isInt (EV.nm 1) W.b.isinstance W.b.int)) rfl) SB.nil) (SB.cons (ST.no (ET.to (ET.val (EV.isStr (EV.nm 1) W.b.isinstance W.b.str)) rfl) SB.nil) (SB.cons (ST.no (ET.to (ET.isN (EV.nm 1)) rfl) SB.nil)
        (SB.cons (ST.no (ET.to (EW.et (EW.and (k1 := false) (k2 := true) (ET.to (ET.val (EV.isTuple (EV.nm 1) W.b.isinstance W.b.tuple)) rfl) (fun z => nomatch z) (fun _ => rfl))) rfl) SB.nil)
        (SB.cons (ST.no (ET.to (EW.et (EW.and (ET.val (EV.isList (EV.nm 1) W.b.isinstance W.b.list)) (fun _ => EW.and1 (ET.not (ET.val (EV.isList (EV.nm 0) W.b.isinstance W.b.list)))) (fun _ => rfl))) rfl) SB.nil) (loop rfl hf.1 hf.2))))))
    | bl k => exact like_flat W True.intro
    | int i => exact like_flat W True.intro
    | str x => exact like_flat W True.intro
    | non => exact like_flat W True.intro
    | dct ks ds => exact hf.elim
end
/-! ### what a def does, told by its run -/
section
variable {g : Pg}
def Run (g : Pg) (N : List Str) (st : Stmt) (k : Nat) (os : List O) (M : Mem) (o : O) (M' : Mem) : Prop := M.length ≤ M'.length ∧ LowO M'.length o ∧ LowM M'.length M' ∧ ∃ J, SB (mkC g N st k) (defBody st) (pad N os) M (.rt o (M' ++ J))
theorem FN.run {x : Str} {st : Stmt} {N ps : List Str} {k : Nat} (T : TxtF g x st) (S : FnScope N ps (defScope st))
    (hb : ∀ (kV doc pm : Value) (an : Option Addr) (cdv ct : Value) (us : List Value), us.length = ps.length → bindArgs (PySem.W.fnOf x x (defArgs st) (defBody st) (defScope st) .none kV doc pm an cdv ct) ⟨us, []⟩ = pure (ps.zip us)) :
    FN g x (k + 1) (fun os M o M' => os.length = ps.length ∧ Run g N st k os M o M') :=
  FN.mkJ T S hb (fun os M o M' h => h.1) (fun os M o M' h => ⟨h.2.1, h.2.2.1, h.2.2.2.1, h.2.2.2.2⟩)
end
section
variable {g : Pg}
section
variable {C : Cc} {E : List O} {M M1 : Mem} {elt iter : Expr} {p : Pos} {x : Str} {scope : Scope} {own : List (Str × Nat)} {d : D}
theorem LC.lX {α : Type} (jx : Nat) {xs : List α} {f : α → D} (A : Nat → Mem) (acc : Nat → List O) (ok : blkC C.N C.sc scope own = true) (nd : C.N.Nodup) (ho : own.map (·.2) = [jx]) (h : EV C iter E M (.dat d) M1) (hd : seqD d = some (xs.map f)) (hA : A 0 = M1 ++ [some []]) (ha : acc 0 = [])
    (step : ∀ (i : Nat) (hi : i < xs.length), ∃ o Mc, EV (C.blk scope) elt ((wipeE E [jx]).set jx (.dat (f xs[i]))) (A i) o Mc ∧ Mc[M1.length]? = some (some (acc i)) ∧ (acc i).length < 100000 ∧ A (i + 1) = Mc.set M1.length (some (acc i ++ [o])) ∧ acc (i + 1) = acc i ++ [o])
    (hi : C.N[jx]? = some x := by rfl) (hx : Loc (C.blk scope).sc x := by first | exact Or.inl rfl | exact Or.inr rfl) (hf' : (C.blk scope).fn x = true ∨ (C.blk scope).sc.names.lookup x = some .local := by first | exact .inl rfl | exact .inr rfl)
    (hf : ∀ env x, foldedSetIterable iter env x = pure x := by intro _ _; rfl) : LC C elt (.Name x p) iter [] scope own E M (.adr M1.length) (A xs.length) := by
  have hlen : (xs.map f).length = xs.length := List.length_map _
  have key := LC.gen (C := C) (tg := .Name x p) (elt := elt) (iter := iter) (ifs := []) (scope := scope) (own := own) (A := A) (acc := acc) ok nd (EI.seq h hd) hA ha (fun _ _ => True.intro) (fun i hi' => by
    rw [hlen] at hi'
    obtain ⟨o, Mc, h1, h2, h3, h4, h5⟩ := step i hi'
    refine ⟨_, _, true, _, EGv.nm jx nd (by rw [ho]; simp) hi hx hf', EP.nil, .inl ⟨rfl, o, Mc, ?_, h2, h3, h4, h5⟩⟩
    rw [ho, atO_map hi']
    exact h1) hf
  rw [hlen] at key
  exact key
end
theorem rowC_app {v : List Int} {x : Int} : rowC (v ++ [x]) = some ((v.map D.int).map O.dat ++ [O.dat (D.int x)]) := by
  show some _ = some _
  rw [List.map_append, List.map_append]
  rfl
end
/-! ### rows of numbers -/
section
variable {g : Pg}
def dl : Nat → List Int → List Int
  | 0, ns => ns
  | i + 1, ns => (dl i ns).dropLast
def pick (L : List Int) (i : Int) : Int := L.getD i.toNat 0
theorem pick_at {L : List Int} {i : Int} (h : 0 ≤ i ∧ i < L.length) : atI (L.map D.int) i = some (.int (pick L i)) := by
  obtain ⟨n, rfl⟩ : ∃ n : Nat, i = (n : Int) := ⟨i.toNat, by omega⟩
  refine atI_nat ?_
  rw [List.getElem?_map]
  have hn : n < L.length := by omega
  show _ = some (D.int (L.getD n 0))
  rw [getD_of_lt hn]
  rfl
theorem pick_mem {L : List Int} {i : Int} (h : 0 ≤ i ∧ i < L.length) : pick L i ∈ L := mem_getD (by omega)
theorem ixN_of {n k : Nat} (h : k < n) : ixN n (k : Int) = some k := by
  unfold ixN
  rw [if_pos (by omega), if_pos (by omega)]
  simp
theorem lowR {n : Nat} {ns : List Int} : LowM n [rowC ns] := LowM.dat LowM.nil
theorem EV.call1' {C : Cc} {E : List O} {M M1 M' : Mem} {e : Expr} {es : List Expr} {p pos : Pos} {x : Str} {d : D} {R : Rel} {kf n : Nat} {ds cs cs' : List D} (F : FN C.g x kf R) (ha : EA C (e :: es) E M (.adr n :: ds.map .dat) M1) (hc : M1[n]? = some (some (cs.map .dat))) (hR : R (.adr 0 :: ds.map .dat) [some (cs.map .dat)] (.dat d) [some (cs'.map .dat)]) (hk : Nat.ble kf C.k = true := by rfl)
    (hg : C.sc.names.lookup x = some .globalImplicit := by rfl) (hdb : (x == ("__debug__" : Str)) = false := by decide) (he : ∀ env, starEach (e :: es) env = (false, eval e env) :: starEach es env := by intro _; rfl) (hpl : ∀ env, (backTo pos (starEach es env)).any (·.1) = false := by intro _; rfl) (hM : M' = M1.set n (some (cs'.map .dat)) := by rfl) :
    EV C (.Call (.Name x p) (e :: es) [] pos) E M (.dat d) M' := by
  subst hM
  exact EV.call1 F ha hc hR hk hg hdb he hpl
theorem row_set {v : List Int} {j : Nat} {x : Int} : (some (((v.map D.int).map O.dat).set j (.dat (.int x))) : Option (List O)) = rowC (v.set j x) := by
  show _ = some _
  rw [List.map_set, List.map_set]
theorem adr_len {n b : Nat} : ((List.range n).map fun i => O.adr (b + i)).length = n := by rw [List.length_map, List.length_range]
theorem row_len {v : List Int} : ((v.map D.int).map O.dat).length = v.length := by rw [List.length_map, List.length_map]
theorem adr_at {n b i : Nat} (h : i < n) : atI ((List.range n).map fun k => O.adr (b + k)) ((i : Nat) : Int) = some (.adr (b + i)) := by
  refine atI_nat ?_
  rw [List.getElem?_map, List.getElem?_range h]
  rfl
theorem row_at {v : List Int} {j : Nat} (h : j < v.length) : atI ((v.map D.int).map O.dat) ((j : Nat) : Int) = some (.dat (.int (v.getD j 0))) := by
  refine atI_nat ?_
  rw [List.getElem?_map, List.getElem?_map, getD_of_lt h]
  rfl
end
section
variable {g : Pg}
theorem isV_ix {e : D} {r : List Int} {j : Nat} (h : seqD e = some (r.map D.int)) (hj : j < r.length) : ixD e ((j : Nat) : Int) = some (.int (r.getD j 0)) := by
  have : (r.map D.int)[j]? = some (.int (r.getD j 0)) := by
    rw [List.getElem?_map, getD_of_lt hj]
    rfl
  cases e <;> first | (cases h; exact atI_nat this) | cases h
theorem mixDraws {res : List Int} : Mix [] [] [] [none, rowC res] [none, rowC res] := by
  refine ⟨rfl, List.nodup_nil, rfl, fun i k h => by simp at h, fun k os h => ?_⟩
  match k, h with
  | 1, h =>
    have e : ((res.map D.int).map O.dat) = os := Option.some.inj (Option.some.inj h)
    subst e
    exact .inr ⟨1, _, rfl, .inr (Nat.zero_le _), rfl, (ren_dat _).symm⟩
  | k + 2, h => simp at h
end
/-! ### draws -/
section
variable {g : Pg}
theorem chain {S : Type} {P : Nat → S → S → Prop} {I : Nat → S → Prop} {n : Nat} (h : ∀ i, i < n → ∀ s, I i s → ∃ s', P i s s' ∧ I (i + 1) s') (s0 : S) (h0 : I 0 s0) : ∃ f : Nat → S, f 0 = s0 ∧ (∀ i, i ≤ n → I i (f i)) ∧ ∀ i, i < n → P i (f i) (f (i + 1)) := by
  induction n with
  | zero => exact ⟨fun _ => s0, rfl, fun i hi => by rw [Nat.le_zero.mp hi]; exact h0, fun i hi => absurd hi (Nat.not_lt_zero i)⟩
  | succ n ih =>
    obtain ⟨f, f0, f1, f2⟩ := ih fun i hi => h i (by omega)
    obtain ⟨s', p1, p2⟩ := h n (Nat.lt_succ_self n) (f n) (f1 n (Nat.le_refl n))
    refine ⟨fun i => if i ≤ n then f i else s', by show (if 0 ≤ n then f 0 else s') = s0; rw [if_pos (Nat.zero_le _)]; exact f0, fun i hi => ?_, fun i hi => ?_⟩
    · by_cases hin : i ≤ n
      · simp only [if_pos hin]
        exact f1 i hin
      · have : i = n + 1 := by omega
        subst this
        simp only [if_neg hin]
        exact p2
    · by_cases hin : i < n
      · simp only [if_pos (show i ≤ n by omega), if_pos (show i + 1 ≤ n by omega)]
        exact f2 i hin
      · have : i = n := by omega
        subst this
        simp only [if_pos (Nat.le_refl i), if_neg (show ¬ i + 1 ≤ i by omega)]
        exact p1
def dig (t : List Int) (n : Int) : Nat → List Int × Int
  | 0 => (t, n)
  | k + 1 => ((dig t n k).1 ++ [(dig t n k).2 % 1000], (dig t n k).2 / 1000)
theorem dig_len {t : List Int} {n : Int} : ∀ k, (dig t n k).1.length = t.length + k
  | 0 => rfl
  | k + 1 => by
    show ((dig t n k).1 ++ [_]).length = _
    rw [List.length_append, dig_len k, List.length_singleton]
    omega
theorem cutD_map {α β : Type} {f : α → β} {xs : List α} {lo hi : Option Int} : cutD (xs.map f) lo hi = (cutD xs lo hi).map f := by
  unfold cutD
  rw [List.length_map, List.map_take, List.map_drop]
theorem cut63 {α : Type} {xs : List α} (h : xs.length ≤ 63) : cutD xs none (some 63) = xs := by
  refine cutD_all rfl ?_
  show HT.sIx xs.length xs.length (some ((63 : Nat) : Int)) = _
  rw [HT.sIx_nat]
  omega
abbrev db : List Stmt := defBody s_law_draws
theorem draws_run (W : Wd g) {o0 : O} {ns : List Int} (hs : Scr g.K o0 (ns.map V.int)) (hn : o0 ≠ .no) (hl : ns.length ≤ 63) : ∃ res : List Int, SB (mkC g n_law_draws s_law_draws 0) db (pad n_law_draws [o0, .dat (.int 300)]) [] (.rt (.adr 1) [none, rowC res]) := by
  have hcut : cutD (ns.map D.int) none (some 63) = ns.map D.int := cut63 (by rw [List.length_map]; exact hl)
  have hnl : (ns.map D.int).length = ns.length := List.length_map _
  have slice : ∀ {E : List O} {M : Mem} {p p1 p2 q : Pos} {j : Nat}, E[0]? = some o0 → EV (mkC g n_law_draws s_law_draws 0) (.Subscript (.Name "script" p1) (.Slice none (some (.Constant (.int 63) j q)) none p2) p) E M (.dat (.lst (ns.map D.int))) M := fun {E M p p1 p2 q j} he => by
    have := EV.slS (C := mkC g n_law_draws s_law_draws 0) (pos := p) (p := p2) (EV.nm (M := M) (x := "script") (pos := p1) 0 rfl he hn) EO.none (EO.some (EV.int (pos := q) (j := j) (i := 63))) hs
    rw [hcut] at this
    exact this
  -- the first loop
  let E1 : List O := [o0, .dat (.int 300), .adr 0, .no, .no, .no, .no]
  obtain ⟨f, f0, fI, fP⟩ := chain (S := List Int) (n := ns.length) (I := fun i t => t.length ≤ 60 * i)
    (P := fun i t t' => ∃ E2, Fg E2 E1 ∧ SB (mkC g n_law_draws s_law_draws 0) (bodyOf (db.getD 1 (.Pass ⟨0, 0, 0, 0⟩))) (E1.set 3 (.dat (.int (ns.getD i 0)))) [rowC t] (.nx E2 [rowC t'])) (fun i hi t ht => by
      generalize ns.getD i 0 = z
      by_cases hz : 10 ^ 18 ≤ z
      · -- digits
        have hbr : ∃ m, m ≤ 60 ∧ (∀ k, k < m → ¬ ((dig t z k).2 = 0 ∨ 300 ≤ (dig t z k).1.length)) ∧ (m < 60 → ((dig t z m).2 = 0 ∨ 300 ≤ (dig t z m).1.length)) := by
          by_cases hex : ∃ m, m < 60 ∧ ((dig t z m).2 = 0 ∨ 300 ≤ (dig t z m).1.length)
          · obtain ⟨m, h1, h2⟩ := hex
            obtain ⟨k, k1, k2, k3⟩ := least (P := fun m => (dig t z m).2 = 0 ∨ 300 ≤ (dig t z m).1.length) m h2
            exact ⟨k, by omega, k3, fun _ => k2⟩
          · exact ⟨60, Nat.le_refl _, fun k hk h => hex ⟨k, hk, h⟩, fun h => absurd h (by omega)⟩
        obtain ⟨m, m1, m2, m3⟩ := hbr
        have hd := fun k => dig_len (t := t) (n := z) k
        have test : ∀ {k : Nat} {E : List O} {b : Bool}, E = [o0, .dat (.int 300), .adr 0, .dat (.int z), .dat (.int (dig t z k).2), .dat (.int (0 + (k : Int))), .no] → b = decide ((dig t z k).2 = 0 ∨ 300 ≤ (dig t z k).1.length) → ET (mkC g n_law_draws s_law_draws 0) (ifOf ((bodyOf ((thenOf ((bodyOf (db.getD 1 (.Pass ⟨0, 0, 0, 0⟩))).getD 1 (.Pass ⟨0, 0, 0, 0⟩))).getD 0 (.Pass ⟨0, 0, 0, 0⟩))).getD 0 (.Pass ⟨0, 0, 0, 0⟩))) E [rowC (dig t z k).1] b [rowC (dig t z k).1] := fun {k E b} he hb => by
          subst he
          refine ET.to (EW.et (EW.or (ET.cm (EV.nm 4) EV.int CS.eqI) (fun _ => EW.or1 (ET.cm (EV.lenC (nn := 0) (EV.nm 2) rfl W.b.len) (EV.nm 1) CS.geI)) (fun _ => rfl))) ?_
          rw [hb, row_len, Bool.eq_iff_iff]
          simp
          omega
        refine ⟨(dig t z m).1, ⟨[o0, .dat (.int 300), .adr 0, .dat (.int z), .no, .no, .no], ?_, SB.cons (ST.set 4 (EV.intI (EV.nm 3) W.b.int) c_law_draws.nd) (SB.one (ST.yes (ET.to (ET.cm (EV.nm 4) (EV.pow EV.int EV.int ⟨by decide, by decide, by decide⟩) CS.geI) (decide_eq_true hz)) (SB.one ?_)))⟩, ?_⟩
        · exact Fg.cons (Fg.cons (Fg.cons (Fg.no (Fg.refl))))
        · have base : ∀ {r : Out}, (m = 60 ∧ r = .nx [o0, .dat (.int 300), .adr 0, .dat (.int z), .dat (.int (dig t z 60).2), .no, .no] [rowC (dig t z 60).1] ∨ m < 60 ∧ r = .nx [o0, .dat (.int 300), .adr 0, .dat (.int z), .dat (.int (dig t z m).2), .dat (.int (0 + (m : Int))), .no] [rowC (dig t z m).1]) → ST (mkC g n_law_draws s_law_draws 0) ((thenOf ((bodyOf (db.getD 1 (.Pass ⟨0, 0, 0, 0⟩))).getD 1 (.Pass ⟨0, 0, 0, 0⟩))).getD 0 (.Pass ⟨0, 0, 0, 0⟩)) [o0, .dat (.int 300), .adr 0, .dat (.int z), .dat (.int z), .no, .no] [rowC t] r := fun {r} hr => by
            refine ST.for (m := m) (n := 60) (E_ := fun k => [o0, .dat (.int 300), .adr 0, .dat (.int z), .dat (.int (dig t z k).2), .no, .no]) (M_ := fun k => [rowC (dig t z k).1]) (EI.rng1 EV.int W.b.range (by decide)) Fg.refl rfl m1 (fun _ _ => True.intro) (fun k hk => ?_) ?_
            · refine ⟨_, _, [o0, .dat (.int 300), .adr 0, .dat (.int z), .dat (.int (dig t z (k + 1)).2), .dat (.int (0 + (k : Int))), .no], EG.nm 5 c_law_draws.nd, ?_, .inl ?_⟩
              · exact Fg.cons (Fg.cons (Fg.cons (Fg.cons (Fg.cons (Fg.no Fg.refl)))))
              · refine SB.cons (ST.no (test (b := false) rfl (decide_eq_false (m2 k hk)).symm) SB.nil) (SB.cons (E1 := [o0, .dat (.int 300), .adr 0, .dat (.int z), .dat (.int (dig t z k).2), .dat (.int (0 + (k : Int))), .no]) (M1 := [rowC ((dig t z k).1 ++ [(dig t z k).2 % 1000])]) (ST.to (ST.exp (EV.append (n := 0) (ps := ((dig t z k).1.map D.int).map O.dat) (EV.nm 2) (EV.mod (EV.intI (EV.nm 4) W.b.int) EV.int (by decide)) rfl rfl (by rw [row_len, hd]; omega))) ?_) (SB.one (ST.set 4 (EV.to (EV.div (EV.nm 4) EV.int ⟨by decide, by decide⟩) rfl) c_law_draws.nd)))
                show Out.nx _ [some _] = Out.nx _ [rowC ((dig t z k).1 ++ [(dig t z k).2 % 1000])]
                rw [rowC_app]
                rfl
            · rcases hr with ⟨rfl, rfl⟩ | ⟨h60, rfl⟩
              · exact .inl ⟨rfl, rfl⟩
              · exact .inr ⟨h60, _, _, EG.nm 5 c_law_draws.nd, .inr ⟨_, _, SB.stop (ST.yes (test (b := true) rfl (decide_eq_true (m3 h60)).symm) (SB.one ST.brk)), rfl⟩⟩
          by_cases h60 : m < 60
          · refine ST.forget (base (.inr ⟨h60, rfl⟩)) ?_
            exact Fg.cons (Fg.cons (Fg.cons (Fg.cons (Fg.no (Fg.no Fg.refl)))))
          · have e : m = 60 := by omega
            subst e
            refine ST.forget (base (.inl ⟨rfl, rfl⟩)) ?_
            exact Fg.cons (Fg.cons (Fg.cons (Fg.cons (Fg.no Fg.refl))))
        · rw [hd]; omega
      · refine ⟨t, ⟨_, ?_, SB.cons (ST.set 4 (EV.intI (EV.nm 3) W.b.int) c_law_draws.nd) (SB.one (ST.no (ET.to (ET.cm (EV.nm 4) (EV.pow EV.int EV.int ⟨by decide, by decide, by decide⟩) CS.geI) (decide_eq_false hz)) SB.nil))⟩, by omega⟩
        exact Fg.cons (Fg.cons (Fg.cons (Fg.no (Fg.no Fg.refl))))) [] (by simp)
  -- the second one
  let E2 : Int → List O := fun s => [o0, .dat (.int 300), .adr 0, .no, .no, .no, .dat (.int s)]
  obtain ⟨u, u0, uI, uP⟩ := chain (S := Int) (n := ns.length) (I := fun i s => 0 ≤ s ∧ s < 2147483647)
    (P := fun i s s' => ∃ E', Fg E' (E2 s') ∧ SB (mkC g n_law_draws s_law_draws 0) (bodyOf (db.getD 3 (.Pass ⟨0, 0, 0, 0⟩))) ((E2 s).set 5 (.dat (.int (0 + (i : Int))))) [rowC (f ns.length)] (.nx E' [rowC (f ns.length)])) (fun i hi s hs' => by
      refine ⟨(s * s + ns.getD i 0 % 999999937 + (i : Int) + 1) % 2147483647, ⟨_, ?_, SB.one (ST.set 6 (EV.mod (EV.add (EV.add (EV.add (EV.mul (EV.nm 6) (EV.nm 6) (mul_okL (by omega))) (EV.mod (EV.intI (EV.ixS (EV.nm 0 rfl rfl hn) (EV.nm 5) hs (by rw [Int.zero_add]; exact isV_ix (e := .lst (ns.map D.int)) rfl hi)) W.b.int) EV.int (by decide))) (EV.nm 5)) EV.int) EV.int (by decide)) c_law_draws.nd)⟩, Int.emod_nonneg _ (by decide), Int.emod_lt_of_pos _ (by decide)⟩
      rw [Int.zero_add]
      exact Fg.cons (Fg.cons (Fg.cons (Fg.cons (Fg.cons (Fg.no Fg.refl)))))) 40503 (by decide)
  -- the third one
  let E3 : Int × List Int → List O := fun s => [o0, .dat (.int 300), .adr 0, .no, .no, .no, .dat (.int s.1)]
  obtain ⟨v, v0, vI, vP⟩ := chain (S := Int × List Int) (n := 303) (I := fun i s => (0 ≤ s.1 ∧ s.1 < 2147483647) ∧ s.2.length ≤ 3780 + i)
    (P := fun i s s' => ∃ E', Fg E' (E3 s') ∧ SB (mkC g n_law_draws s_law_draws 0) (bodyOf (db.getD 4 (.Pass ⟨0, 0, 0, 0⟩))) ((E3 s).set 5 (.dat (.int (0 + (i : Int))))) [rowC s.2] (.nx E' [rowC s'.2])) (fun i hi s hs' => by
      obtain ⟨s, t⟩ := s
      obtain ⟨hs1, hs2⟩ := hs'
      simp only at hs1 hs2
      have hp : 0 ≤ (s * s + 5 * (0 + (i : Int)) + 3) % 2147483647 ∧ (s * s + 5 * (0 + (i : Int)) + 3) % 2147483647 < 2147483647 := ⟨Int.emod_nonneg _ (by decide), Int.emod_lt_of_pos _ (by decide)⟩
      have st : ∀ {r : Out} {rest : List Stmt}, SB (mkC g n_law_draws s_law_draws 0) ((bodyOf (db.getD 4 (.Pass ⟨0, 0, 0, 0⟩))).drop 1) [o0, .dat (.int 300), .adr 0, .no, .no, .dat (.int (0 + (i : Int))), .dat (.int ((s * s + 5 * (0 + (i : Int)) + 3) % 2147483647))] [rowC t] r → SB (mkC g n_law_draws s_law_draws 0) (bodyOf (db.getD 4 (.Pass ⟨0, 0, 0, 0⟩))) ((E3 (s, t)).set 5 (.dat (.int (0 + (i : Int))))) [rowC t] r := fun {r rest} h =>
        SB.cons (ST.set 6 (EV.mod (EV.add (EV.add (EV.mul (EV.nm 6) (EV.nm 6) (mul_okL (by omega))) (EV.mulL EV.int (EV.nm 5) (by decide))) EV.int) EV.int (by decide)) c_law_draws.nd) h
      by_cases h2 : (2 : Int) < 0 + (i : Int)
      · refine ⟨((s * s + 5 * (0 + (i : Int)) + 3) % 2147483647, t ++ [(s * s + 5 * (0 + (i : Int)) + 3) % 2147483647 / 64 % 1000]), ⟨[o0, .dat (.int 300), .adr 0, .no, .no, .dat (.int (0 + (i : Int))), .dat (.int ((s * s + 5 * (0 + (i : Int)) + 3) % 2147483647))], ?_, st (rest := []) (SB.one (ST.yes (ET.to (ET.cm (EV.nm 5) EV.int CS.gtI) (decide_eq_true h2)) (SB.one (ST.to (ST.exp (EV.append (n := 0) (ps := (t.map D.int).map O.dat) (EV.nm 2) (EV.mod (EV.div (EV.nm 6) EV.int ⟨by decide, by decide⟩) EV.int (by decide)) rfl rfl (by rw [row_len]; omega))) ?_))))⟩, hp, ?_⟩
        · exact Fg.cons (Fg.cons (Fg.cons (Fg.cons (Fg.cons (Fg.no Fg.refl)))))
        · show Out.nx _ [some _] = Out.nx _ [rowC (t ++ [_])]
          rw [rowC_app]
        · show (t ++ [_]).length ≤ _
          rw [List.length_append, List.length_singleton]
          omega
      · refine ⟨((s * s + 5 * (0 + (i : Int)) + 3) % 2147483647, t), ⟨_, ?_, st (rest := []) (SB.one (ST.no (ET.to (ET.cm (EV.nm 5) EV.int CS.gtI) (decide_eq_false h2)) SB.nil))⟩, hp, ?_⟩
        · exact Fg.cons (Fg.cons (Fg.cons (Fg.cons (Fg.cons (Fg.no Fg.refl)))))
        · show t.length ≤ _
          omega) (u ns.length, f ns.length) ⟨uI _ (Nat.le_refl _), by
      have := fI ns.length (Nat.le_refl _)
      show (f ns.length).length ≤ 3780 + 0
      omega⟩
  refine ⟨(cutD (v 303).2 none (some 300)).reverse, SB.cons (ST.set 2 (EV.cel EA.nil (by decide)) c_law_draws.nd) (SB.cons (ST.forN 3 (E_ := fun _ => E1) (M_ := fun i => [rowC (f i)]) (EI.lst (slice rfl)) ?_ (by rw [f0]; rfl) (fun _ _ => True.intro) c_law_draws.nd (fun i hi => ?_)) (SB.cons (ST.set 6 EV.int c_law_draws.nd) (SB.cons (ST.forN 5 (n := ((ns.length : Nat) : Int).toNat) (E_ := fun i => E2 (u i)) (M_ := fun i => [rowC (f ns.length)]) (EI.rng1 (EV.len (slice rfl) (by show some (ns.map D.int).length = some ns.length; rw [hnl]) W.b.len) W.b.range (by omega)) ?_ (by rw [hnl]) (fun _ _ => True.intro) c_law_draws.nd (fun i hi => ?_)) (SB.cons (ST.forN 5 (n := ((300 : Int) + 3).toNat) (E_ := fun i => E3 (v i)) (M_ := fun i => [rowC (v i).2]) (EI.rng1 (EV.add (EV.nm 1) EV.int) W.b.range (by decide)) ?_ (by rw [v0]) (fun _ _ => True.intro) c_law_draws.nd (fun i hi => ?_)) (SB.fz (jj := 2) (nn := 0) (ds := (v 303).2.map D.int) rfl rfl (SB.to (SB.one (ST.ret (EV.listRevN (EV.slL (EV.nm 2) EO.none (EO.some (EV.nm 1))) W.b.list W.b.reversed))) ?_))))))⟩
  · exact Fg.refl
  · rw [hnl] at hi
    have e : atO (ns.map D.int) i = .dat (.int (ns.getD i 0)) := by
      rw [atO_map hi, List.getD_eq_getElem?_getD, List.getElem?_eq_getElem hi]
      rfl
    rw [e]
    exact fP i hi
  · rw [u0]
    exact Fg.refl
  · exact uP i (by omega)
  · rw [v0]
    exact Fg.refl
  · exact vP i hi
  · rw [cutD_map, ← List.map_reverse]
    rfl
def drawsR (g : Pg) : Rel := fun os M o M' => ∃ (o0 : O) (res : List Int), SB (mkC g n_law_draws s_law_draws 0) db (pad n_law_draws [o0, .dat (.int 300)]) [] (.rt (.adr 1) [none, rowC res]) ∧ os = [o0, .dat (.int 300)] ∧ M = [] ∧ o = .adr 1 ∧ M' = [none, rowC res]
theorem ok_law_draws (W : Wd g) : FN g "_law_draws" 1 (drawsR g) := by
  refine FN.mk W.t_law_draws c_law_draws (fun _ _ _ _ _ _ us hl => match us, hl with | [_, _], _ => rfl) (fun os M o M' h => by obtain ⟨o0, res, _, rfl, _⟩ := h; rfl) (fun os M o M' h => ?_)
  obtain ⟨o0, res, h, rfl, rfl, rfl, rfl⟩ := h
  exact h
end
end
section
/-! ### the law's own words -/
section
theorem FN.mk1x {g : Pg} {x y : Str} {st : Stmt} {N : List Str} {k : Nat} {F : D → D → Prop} (T : TxtF g x st) (S : FnScope N [y] (defScope st))
    (hb : ∀ (kV doc pm : Value) (an : Option Addr) (cdv ct : Value) (us : List Value), us.length = 1 → bindArgs (PySem.W.fnOf x x (defArgs st) (defBody st) (defScope st) .none kV doc pm an cdv ct) ⟨us, []⟩ = pure ([y].zip us))
    (body : ∀ d r, F d r → ∃ J, SB (Ab.mkC g N st k) (defBody st) (pad N [.dat d]) [] (.rt (.dat r) J)) : FN g x (k + 1) (P1 F) :=
  FN.mkJ T S hb (fun os M o M' h => by obtain ⟨d, r, rfl, _⟩ := h; rfl) (fun os M o M' h => by obtain ⟨d, r, rfl, rfl, rfl, rfl, h⟩ := h; obtain ⟨J, h⟩ := body d r h; exact ⟨Nat.le_refl _, True.intro, LowM.nil, J, h⟩)
theorem FN.mk2x' {g : Pg} {x y z : Str} {st : Stmt} {N : List Str} {k : Nat} {F : D → D → D → Prop} (T : TxtF g x st) (S : FnScope N [y, z] (defScope st))
    (hb : ∀ (kV doc pm : Value) (an : Option Addr) (cdv ct : Value) (us : List Value), us.length = 2 → bindArgs (PySem.W.fnOf x x (defArgs st) (defBody st) (defScope st) .none kV doc pm an cdv ct) ⟨us, []⟩ = pure ([y, z].zip us))
    (body : ∀ d e r, F d e r → ∃ J, SB (Ab.mkC g N st k) (defBody st) (pad N [.dat d, .dat e]) [] (.rt (.dat r) J)) : FN g x (k + 1) (P2 F) :=
  FN.mkJ T S hb (fun os M o M' h => by obtain ⟨d, e, r, rfl, _⟩ := h; rfl) (fun os M o M' h => by obtain ⟨d, e, r, rfl, rfl, rfl, rfl, h⟩ := h; obtain ⟨J, h⟩ := body d e r h; exact ⟨Nat.le_refl _, True.intro, LowM.nil, J, h⟩)
/-- rows of numbers, of lists or tuples -/
def Sq (d : D) (m : List (List Int)) : Prop := ∃ ds, seqD d = some ds ∧ Paired (fun e (r : List Int) => seqD e = some (r.map .int)) ds m
theorem sq_t {m : List (List Int)} : Sq (tM m) m := ⟨_, rfl, paired_tM m⟩
theorem sq_l {m : List (List Int)} : Sq (lM m) m := ⟨_, rfl, paired_lM m⟩
theorem sq_of {d : D} {m : List (List Int)} (h : IsM d m) : Sq d m := h.2
theorem paired_at {α β : Type} {R : α → β → Prop} : ∀ {l : List α} {k : List β} {i : Nat} {b : β}, Paired R l k → k[i]? = some b → ∃ a, l[i]? = some a ∧ R a b
  | _, _, _, _, .nil, h => by simp at h
  | _, _, 0, _, .cons h _, e => by simp at e; subst e; exact ⟨_, rfl, h⟩
  | _, _, i + 1, _, .cons _ r, e => by
    obtain ⟨a, h1, h2⟩ := paired_at (i := i) r (by simpa using e)
    exact ⟨a, by simpa using h1, h2⟩
theorem Sq.len {d : D} {m : List (List Int)} (h : Sq d m) : lenD d = some m.length := by
  obtain ⟨ds, h1, h2⟩ := h
  rw [← Paired.length h2]
  exact (seq_of h1).2
theorem Sq.at_ {d : D} {m : List (List Int)} (h : Sq d m) {i : Nat} (hi : i < m.length) : ∃ e, ixD d (i : Int) = some e ∧ seqD e = some ((m.getD i []).map D.int) := by
  obtain ⟨ds, h1, h2⟩ := h
  have hm : m[i]? = some (m.getD i []) := by rw [List.getD_eq_getElem?_getD, List.getElem?_eq_getElem hi]; rfl
  obtain ⟨e, e1, e2⟩ := paired_at h2 hm
  refine ⟨e, ?_, e2⟩
  cases d <;> first | (cases h1; exact atI_nat e1) | cases h1
theorem sqV_at {e : D} {r : List Int} (h : seqD e = some (r.map D.int)) {j : Nat} (hj : j < r.length) : ixD e (j : Int) = some (.int (r.getD j 0)) := by
  have e1 : (r.map D.int)[j]? = some (.int (r.getD j 0)) := by
    rw [List.getElem?_map, List.getElem?_eq_getElem hj, List.getD_eq_getElem?_getD, List.getElem?_eq_getElem hj]
    rfl
  cases e <;> first | (cases h; exact atI_nat e1) | cases h
theorem sqV_len {e : D} {r : List Int} (h : seqD e = some (r.map D.int)) : lenD e = some r.length := by
  have := (seq_of h).2
  rwa [List.length_map] at this
theorem ev_at {C : Cc} {E : List O} {M M1 M' : Mem} {a b c : Expr} {p1 p2 : Pos} {d : D} {m : List (List Int)} {i j : Nat} (h : Sq d m) (ha : EV C a E M (.dat d) M1) (hb : EV C b E M1 (.dat (.int (i : Int))) M1) (hc : EV C c E M1 (.dat (.int (j : Int))) M') (hi : i < m.length) (hj : j < (m.getD i []).length) (h1 : PlainIx b := by exact fun _ _ => rfl) (h2 : PlainIx c := by exact fun _ _ => rfl) :
    EV C (.Subscript (.Subscript a b p1) c p2) E M (.dat (.int (gE m i j))) M' := by
  obtain ⟨e, e1, e2⟩ := h.at_ hi
  exact EV.ix (EV.ix ha hb e1 h1) hc (sqV_at e2 hj) h2
end
section
variable {g : Pg}
theorem ok_law_rows (W : Wd g) : FN g "_law_rows" 1 (P1 fun d r => ∃ m, Sq d m ∧ m.length < 100000 ∧ r = tM m) := by
  refine FN.mk1 W.t_law_rows c_law_rows (fun _ _ _ _ _ _ us hl => match us, hl with | [_], _ => rfl) (fun d r h => ?_)
  obtain ⟨m, ⟨ds, hs, hp⟩, hz, rfl⟩ := h
  have hmem := paired_mem hp
  have e : tM m = .tup (ds.map tupD) := congrArg D.tup (paired_tup hp).symm
  rw [e]
  exact SB.one (ST.ret (EV.tuple (LC.ev (LC.lM 1 (xs := ds) (f := fun e => e) (g := tupD) (own := [("line", 1)]) (by rfl) c_law_rows.nd rfl (EV.nm 0) (by rw [hs, List.map_id']) (Nat.le_refl _) OkM.refl (by rw [Paired.length hp]; exact hz) (fun y hy M => by
    obtain ⟨q, _, hq⟩ := hmem y hy
    have : tupD y = .tup (q.map D.int) := by unfold tupD; rw [hq]; rfl
    rw [this]
    exact EV.tuple (EV.nm 1) hq W.b.tuple))) rfl W.b.tuple))
def mostV (b : Nat) (v : List Int) : Nat := v.foldl (fun b x => max b x.natAbs) b
def mostF (m : List (List Int)) : Nat := m.foldl mostV 0
theorem mostV_le {B : Nat} : ∀ {v : List Int} {b : Nat}, mostV b v ≤ B ↔ b ≤ B ∧ ∀ x ∈ v, x.natAbs ≤ B
  | [], b => by simp [mostV]
  | x :: v, b => by
    show mostV (max b x.natAbs) v ≤ B ↔ _
    rw [mostV_le]
    simp only [List.mem_cons, forall_eq_or_imp]
    constructor
    · rintro ⟨h1, h2⟩; exact ⟨by omega, by omega, h2⟩
    · rintro ⟨h1, h2, h3⟩; exact ⟨by omega, h3⟩
theorem mostF_le' {B : Nat} : ∀ {m : List (List Int)} {b : Nat}, m.foldl mostV b ≤ B ↔ b ≤ B ∧ ∀ q ∈ m, ∀ x ∈ q, x.natAbs ≤ B
  | [], b => by simp
  | q :: m, b => by
    show m.foldl mostV (mostV b q) ≤ B ↔ _
    rw [mostF_le', mostV_le]
    simp only [List.mem_cons, forall_eq_or_imp]
    constructor
    · rintro ⟨⟨h1, h2⟩, h3⟩; exact ⟨h1, h2, h3⟩
    · rintro ⟨h1, h2, h3⟩; exact ⟨⟨h1, h2⟩, h3⟩
theorem mostF_le {B : Nat} {m : List (List Int)} : mostF m ≤ B ↔ ∀ q ∈ m, ∀ x ∈ q, x.natAbs ≤ B := by
  unfold mostF
  rw [mostF_le']
  simp
theorem ok_law_most (W : Wd g) : FN g "_law_most" 1 (P1 fun d r => ∃ m, Sq d m ∧ r = .int (mostF m : Int)) := by
  refine FN.mk1 W.t_law_most c_law_most (fun _ _ _ _ _ _ us hl => match us, hl with | [_], _ => rfl) (fun d r h => ?_)
  obtain ⟨m, ⟨ds, hs, hp⟩, rfl⟩ := h
  have hlen : ds.length = m.length := Paired.length hp
  refine SB.cons (ST.set 1 EV.int c_law_most.nd) (SB.cons (ST.forN 2 (E_ := fun n => [.dat d, .dat (.int (mostF (m.take n) : Int)), .no, .no]) (M_ := fun _ => []) (EI.seq (EV.nm 0) hs) Fg.refl rfl (fun _ _ => True.intro) c_law_most.nd (fun n hn => ?_)) (SB.one (ST.ret (EV.to (EV.nm 1) ?_))))
  · have hn' : n < m.length := by omega
    obtain ⟨e, e1, e2⟩ := paired_at hp (List.getElem?_eq_getElem hn')
    have ea : atO ds n = .dat e := by
      unfold atO
      rw [List.getD_eq_getElem?_getD, e1]
      rfl
    rw [ea]
    have hl2 : (m[n].map D.int).length = m[n].length := List.length_map _
    refine ⟨[.dat d, .dat (.int (mostF (m.take (n + 1)) : Int)), .dat e, .no], Fg.cons (Fg.cons (Fg.no (Fg.no Fg.nil))), SB.one ?_⟩
    refine ST.to (ST.forN 3 (n := m[n].length) (E_ := fun k => [.dat d, .dat (.int (mostV (mostF (m.take n)) (m[n].take k) : Int)), .dat e, .no]) (M_ := fun _ => []) (hl2 ▸ EI.seq (EV.nm 2) e2) Fg.refl rfl (fun _ _ => True.intro) c_law_most.nd (fun k hk => ?_)) ?_
    · rw [atO_map hk]
      refine ⟨[.dat d, .dat (.int (mostV (mostF (m.take n)) (m[n].take (k + 1)) : Int)), .dat e, .dat (.int m[n][k])], Fg.cons (Fg.cons (Fg.cons (Fg.no Fg.nil))), SB.one (ST.to (ST.set 1 (EV.max2 (EV.nm 1) (EV.abs (EV.nm 3) W.b.abs) W.b.max) c_law_most.nd) ?_)⟩
      have : ((mostV (mostF (m.take n)) (m[n].take (k + 1)) : Nat) : Int) = max ((mostV (mostF (m.take n)) (m[n].take k) : Nat) : Int) ((m[n][k]).natAbs : Int) := by
        unfold mostV
        rw [List.take_succ_eq_append_getElem hk, List.foldl_append]
        show ((max _ _ : Nat) : Int) = _
        omega
      rw [this]
      rfl
    · rw [List.take_length]
      have : mostF (m.take (n + 1)) = mostV (mostF (m.take n)) m[n] := by
        unfold mostF
        rw [List.take_succ_eq_append_getElem hn', List.foldl_append]
        rfl
      rw [this]
  · rw [hlen, List.take_length]
/-- where a row begins -/
def headF (v : List Int) : Nat := match leadF v with
  | some p => p
  | none => v.length
def headsF (m : List (List Int)) : List Nat := m.map headF
theorem filter_head {v : List Int} {p : Nat} (h : leadF v = some p) : ((List.range v.length).filter fun j => !decide (v.getD j 0 = 0)).head? = some p := by
  obtain ⟨h1, h2, h3⟩ := leadF_lt h
  have e : List.range v.length = List.range p ++ (List.range' p (v.length - p)) := by
    rw [List.range_eq_range', List.range_eq_range', show v.length = p + (v.length - p) by omega, ← List.range'_append_1]
    simp
  rw [e, List.filter_append]
  have e1 : (List.range p).filter (fun j => !decide (v.getD j 0 = 0)) = [] := by
    rw [List.filter_eq_nil_iff]
    intro j hj
    rw [h3 j (List.mem_range.mp hj)]
    simp
  rw [e1, List.nil_append, show v.length - p = (v.length - p - 1) + 1 by omega, List.range'_succ, List.filter_cons, if_pos (by simpa using h2)]
  rfl
theorem filter_none {v : List Int} (h : leadF v = none) : ((List.range v.length).filter fun j => !decide (v.getD j 0 = 0)) = [] := by
  rw [List.filter_eq_nil_iff]
  intro j _
  rw [leadF_none h j]
  simp
end
section
theorem SB.forO {C : Cc} {E E0 : List O} {M M0 : Mem} {n : Nat} {it : Nat → O} {inv : Mem → Prop} {tg iter : Expr} {body rest : List Stmt} {pos : Pos} {stat : Nat → Option O} {r : Out} (hs : EI C tg iter E M n it M0 inv) (hE : Fg E E0) (hinv : inv M0)
    (step : ∀ i, i < n → ∃ E1, EG C tg (it i) E0 M0 E1 M0 ∧ (stat i = none → ∃ E2, Fg E2 E0 ∧ SB C body E1 M0 (.nx E2 M0)) ∧ ∀ o, stat i = some o → SB C body E1 M0 (.rt o M0))
    (hrest : (∀ i, i < n → stat i = none) → SB C rest E0 M0 r) (hret : ∀ k o, k < n → stat k = some o → (∀ j, j < k → stat j = none) → r = .rt o M0) (hf : ∀ env x, foldedSetIterable iter env x = pure x := by intro _ _; rfl) : SB C (.For tg iter body [] pos :: rest) E M r := by
  by_cases hall : ∀ i, i < n → stat i = none
  · refine SB.cons (ST.for (m := n) (n := n) (E_ := fun _ => E0) (M_ := fun _ => M0) hs hE rfl (Nat.le_refl _) (fun _ _ => hinv) (fun i hi => ?_) (.inl ⟨rfl, rfl⟩) hf) (hrest hall)
    obtain ⟨E1, h1, h2, _⟩ := step i hi
    obtain ⟨E2, h4, h5⟩ := h2 (hall i hi)
    exact ⟨E1, M0, E2, h1, h4, .inl h5⟩
  · have hex : ∃ i, i < n ∧ stat i ≠ none := by
      refine Classical.byContradiction fun h => hall fun i hi => ?_
      cases hsi : stat i with
      | none => rfl
      | some o => exact absurd ⟨i, hi, by rw [hsi]; exact fun z => nomatch z⟩ h
    obtain ⟨i, hi, hg⟩ := hex
    obtain ⟨k, hk, hkp, hmin⟩ := least (P := fun j => j < n ∧ stat j ≠ none) i ⟨hi, hg⟩
    have hj : ∀ j, j < k → stat j = none := fun j hj => by
      cases hsj : stat j with
      | none => rfl
      | some o => exact absurd ⟨by omega, by rw [hsj]; exact fun z => nomatch z⟩ (hmin j hj)
    obtain ⟨o, ho⟩ : ∃ o, stat k = some o := by
      cases hsk : stat k with
      | none => exact absurd hsk hkp.2
      | some o => exact ⟨o, rfl⟩
    rw [hret k o hkp.1 ho hj]
    obtain ⟨E1, h1, _, h3⟩ := step k hkp.1
    refine SB.stop (ST.for (m := k) (n := n) (E_ := fun _ => E0) (M_ := fun _ => M0) hs hE rfl (Nat.le_of_lt hkp.1) (fun _ _ => hinv) (fun j hjk => ?_) (.inr ⟨hkp.1, E1, M0, h1, .inl ⟨o, M0, h3 o ho, rfl⟩⟩) hf)
    obtain ⟨E1', h1', h2', _⟩ := step j (by omega)
    obtain ⟨E2, h4, h5⟩ := h2' (hj j hjk)
    exact ⟨E1', M0, E2, h1', h4, .inl h5⟩
end
section
variable {g : Pg}
theorem lN_at {l : List Nat} {i : Nat} (h : i < l.length) : ixD (lN l) (i : Int) = some (.int (l.getD i 0 : Int)) := by
  refine atI_nat ?_
  rw [List.getElem?_map, List.getElem?_eq_getElem h, List.getD_eq_getElem?_getD, List.getElem?_eq_getElem h]
  rfl
theorem lN_len {l : List Nat} : lenD (lN l) = some l.length := by
  show some (List.map _ _).length = _
  rw [List.length_map]
def hd (m : List (List Int)) (i : Nat) : Nat := (headsF m).getD i 0
theorem hd_eq {m : List (List Int)} {i : Nat} (h : i < m.length) : hd m i = headF (m.getD i []) := by
  unfold hd headsF
  rw [List.getD_eq_getElem?_getD, List.getElem?_map, List.getElem?_eq_getElem h, List.getD_eq_getElem?_getD, List.getElem?_eq_getElem h]
  rfl
end
section
theorem sw_cell {elt : Expr} {gs : List Comprehension} {scope : Scope} {pos py : Pos} {y : Str} {l : Nat} {env : Env} (hy : env.scope.names.lookup y = some .cell) : swapsWith (.ListComp elt gs scope pos) (some (.Name y py)) l env = pure false := by
  have ky : env.kindOf y = some .cell := hy
  unfold swapsWith
  simp only [ky]
  have : (some NameKind.cell == some NameKind.local) = false := by decide
  rw [this, Bool.and_false]
  rfl
theorem ST.setC {C : Cc} {E : List O} {M M' : Mem} {o : O} {pos : Pos} (i : Nat) {x : Str} {e : Expr} {p' : Pos} (h : EV C e E M o M') (nd : C.N.Nodup) (hs : ∀ env : Env, env.scope = C.sc → swapsWith e (some (.Name x p')) pos.line env = pure false) (hi : C.N[i]? = some x := by rfl) (hx : Loc C.sc x := by first | exact Or.inl rfl | exact Or.inr rfl)
    (hf : C.fn x = true ∨ C.sc.names.lookup x = some .local := by first | exact .inl rfl | exact .inr rfl) : ST C (.Assign [.Name x p'] e pos) E M (.nx (E.set i o) M') :=
  ST.mk (fun X hX => ps_set (by rw [hX.N]; exact nd) (by rw [hX.N]; exact hi) (by rw [hX.sc]; exact hx) (ue hX e) (hs X.env hX.sc) (hf.elim (fun z => .inl (hX.fn x z)) (fun z => .inr (by rw [hX.sc]; exact z))))
    fun I H adr σ D s q => h I H adr σ _ s fun v I1 H1 adr1 s1 g1 v1 => q I1 H1 adr1 _ (s1.set v1) g1
end
section
variable {g : Pg}
theorem lead_eq {v : List Int} {p : Nat} (h1 : p < v.length) (h2 : v.getD p 0 ≠ 0) (h3 : ∀ j, j < p → v.getD j 0 = 0) : leadF v = some p := by
  cases hl : leadF v with
  | none => exact absurd (leadF_none hl p) h2
  | some q =>
    obtain ⟨a1, a2, a3⟩ := leadF_lt hl
    rcases Nat.lt_trichotomy p q with h | h | h
    · exact absurd (a3 p h) h2
    · rw [h]
    · exact absurd (h3 q h) a2
theorem lead_zero {v : List Int} (h : ∀ j, v.getD j 0 = 0) : leadF v = none := by
  cases hl : leadF v with
  | none => rfl
  | some q => exact absurd (h q) (leadF_lt hl).2.1
theorem HF.lead_row {h : List (List Int)} {w r : Nat} {pc : Nat → Nat} (f : HF h w r pc) {i : Nat} (hi : i < r) : leadF (h.getD i []) = some (pc i) := by
  have hl := f.wid _ (mem_getD (Nat.lt_of_lt_of_le hi f.le) : h.getD i [] ∈ h)
  exact lead_eq (by rw [hl]; exact f.lt i hi) (by have := f.pos i hi; unfold gE at this; omega) (fun j hj => f.left i hi j hj)
theorem HF.lead_low {h : List (List Int)} {w r : Nat} {pc : Nat → Nat} (f : HF h w r pc) {i : Nat} (hi : r ≤ i) : leadF (h.getD i []) = none := lead_zero fun j => f.low i hi j
theorem HF.hd {h : List (List Int)} {w r : Nat} {pc : Nat → Nat} (f : HF h w r pc) {i : Nat} (hi : i < r) : hd h i = pc i := by
  rw [hd_eq (Nat.lt_of_lt_of_le hi f.le)]
  unfold headF
  rw [f.lead_row hi]
theorem HF.hd_low {h : List (List Int)} {w r : Nat} {pc : Nat → Nat} (f : HF h w r pc) {i : Nat} (hi : r ≤ i) (hn : i < h.length) : Ab.hd h i = w := by
  rw [hd_eq hn]
  unfold headF
  rw [f.lead_low hi]
  exact f.wid _ (mem_getD hn)
theorem range_get {f : Nat → Int} {n j : Nat} (h : j < n) : ((List.range n).map f).getD j 0 = f j := by
  rw [List.getD_eq_getElem?_getD, List.getElem?_map, List.getElem?_range h]
  rfl
theorem range_out {f : Nat → Int} {n j : Nat} (h : n ≤ j) : ((List.range n).map f).getD j 0 = 0 := by
  rw [List.getD_eq_getElem?_getD, List.getElem?_eq_none (by rw [List.length_map, List.length_range]; exact h)]
  rfl
theorem drop_row {h : List (List Int)} {i : Nat} (hi : i < h.length) : h.drop i = h.getD i [] :: h.drop (i + 1) := by
  rw [List.drop_eq_getElem_cons hi, List.getD_eq_getElem?_getD, List.getElem?_eq_getElem hi]
  rfl
end
section
theorem HF.wdh {h : List (List Int)} {w r : Nat} {pc : Nat → Nat} (f : HF h w r pc) (hn : h ≠ []) : wd h = w := by
  cases h with
  | nil => exact absurd rfl hn
  | cons q l => exact f.wid q List.mem_cons_self
/-! ### the greatest divisor -/
theorem rep_zero {w j : Nat} : (List.replicate w (0 : Int)).getD j 0 = 0 := by
  rw [List.getD_eq_getElem?_getD, List.getElem?_replicate]
  split <;> rfl
end
section
variable {g : Pg}
theorem repI {x : Int} (k : Nat) : (List.replicate k [D.int x]).flatten = (List.replicate k x).map D.int := by
  induction k with
  | zero => rfl
  | succ k ih =>
    rw [List.replicate_succ, List.flatten_cons, ih, List.replicate_succ]
    rfl
end
section
/-! ### is_hermite and the law's look -/
def LkP (m : List (List Int)) : Prop := ∀ i, i < m.length → (hd m i = wd m → ∀ k, i ≤ k → k < m.length → hd m k = wd m) ∧ (hd m i < wd m → 0 < gE m i (hd m i) ∧ ∀ k, k < i → hd m k < hd m i ∧ 0 ≤ gE m k (hd m i) ∧ gE m k (hd m i) < gE m i (hd m i))
theorem hd_some {m : List (List Int)} {i p : Nat} (hi : i < m.length) (h : leadF (m.getD i []) = some p) : hd m i = p := by
  rw [hd_eq hi]
  unfold headF
  rw [h]
theorem hd_none {m : List (List Int)} {i : Nat} (hw : ∀ q ∈ m, q.length = wd m) (hi : i < m.length) (h : leadF (m.getD i []) = none) : hd m i = wd m := by
  rw [hd_eq hi]
  unfold headF
  rw [h]
  exact hw _ (mem_getD hi)
theorem hd_or {m : List (List Int)} {i : Nat} (hw : ∀ q ∈ m, q.length = wd m) (hi : i < m.length) : (leadF (m.getD i []) = none ∧ hd m i = wd m) ∨ (leadF (m.getD i []) = some (hd m i) ∧ hd m i < wd m) := by
  cases h : leadF (m.getD i []) with
  | none => exact .inl ⟨rfl, hd_none hw hi h⟩
  | some p =>
    rw [hd_some hi h]
    refine .inr ⟨rfl, ?_⟩
    have := (leadF_lt h).1
    rwa [hw _ (mem_getD hi)] at this
theorem ech_iff {m : List (List Int)} (hw : ∀ q ∈ m, q.length = wd m) : echB m = true ↔ ∀ i, i + 1 < m.length → hd m (i + 1) = wd m ∨ hd m i < hd m (i + 1) := by
  have key : ∀ i, i < m.length → (stp (lasts m i) (m.getD i [])).isSome = true → lasts m (i + 1) = (hd m i : Int) := fun i hi hs => by
    show (stp (lasts m i) (m.getD i [])).getD 0 = _
    unfold stp at hs ⊢
    rcases hd_or hw hi with ⟨q1, q2⟩ | ⟨q1, q2⟩
    · rw [q1, q2]
      show ((m.getD i []).length : Int) = _
      rw [hw _ (mem_getD hi)]
    · rw [q1] at hs ⊢
      by_cases hp : ((hd m i : Nat) : Int) ≤ lasts m i
      · simp only [if_pos hp] at hs
        cases hs
      · simp only [if_neg hp]
        rfl
  have some_iff : ∀ i, i + 1 < m.length → lasts m (i + 1) = (hd m i : Int) → ((stp (lasts m (i + 1)) (m.getD (i + 1) [])).isSome = true ↔ hd m (i + 1) = wd m ∨ hd m i < hd m (i + 1)) := fun i hi hl => by
    rw [hl]
    unfold stp
    rcases hd_or hw hi with ⟨q1, q2⟩ | ⟨q1, q2⟩
    · rw [q1]
      exact ⟨fun _ => .inl q2, fun _ => rfl⟩
    · rw [q1]
      by_cases hp : ((hd m (i + 1) : Nat) : Int) ≤ (hd m i : Int)
      · simp only [if_pos hp]
        constructor
        · intro z; cases z
        · rintro (z | z) <;> omega
      · simp only [if_neg hp]
        exact ⟨fun _ => .inr (by omega), fun _ => rfl⟩
  unfold echB
  rw [List.all_eq_true]
  constructor
  · intro h i hi
    have h1 := h i (List.mem_range.mpr (by omega))
    have h2 := h (i + 1) (List.mem_range.mpr hi)
    exact (some_iff i hi (key i (by omega) h1)).mp h2
  · intro h
    have all : ∀ i, i < m.length → (stp (lasts m i) (m.getD i [])).isSome = true := fun i => by
      induction i with
      | zero =>
        intro hi
        unfold stp
        cases leadF (m.getD 0 []) with
        | none => rfl
        | some p =>
          have : ¬ ((p : Int) ≤ lasts m 0) := by show ¬ (p : Int) ≤ -1; omega
          simp only [if_neg this]
          rfl
      | succ i ih =>
        intro hi
        exact (some_iff i hi (key i (by omega) (ih (by omega)))).mpr (h i hi)
    intro i hi
    exact all i (List.mem_range.mp hi)
theorem in_iff {m : List (List Int)} (hw : ∀ q ∈ m, q.length = wd m) : inB m = true ↔ LkP m := by
  unfold inB
  rw [Bool.and_eq_true, ech_iff hw, List.all_eq_true]
  have inr : ∀ i, i < m.length → hd m i < wd m → (inR m i = true ↔ 0 ≤ gE m i (hd m i) ∧ ∀ k, k < i → 0 ≤ gE m k (hd m i) ∧ gE m k (hd m i) < gE m i (hd m i)) := fun i hi hlt => by
    rcases hd_or hw hi with ⟨q1, q2⟩ | ⟨q1, q2⟩
    · omega
    · unfold inR
      rw [q1]
      show (!(decide (gE m i (hd m i) < 0) || !(m.take i).all fun q => decide (0 ≤ q.getD (hd m i) 0) && decide (q.getD (hd m i) 0 < gE m i (hd m i)))) = true ↔ _
      rw [Bool.not_eq_true', Bool.or_eq_false_iff, Bool.not_eq_false', decide_eq_false_iff_not, List.all_eq_true]
      have e : (∀ q ∈ m.take i, (decide (0 ≤ q.getD (hd m i) 0) && decide (q.getD (hd m i) 0 < gE m i (hd m i))) = true) ↔ ∀ k, k < i → 0 ≤ gE m k (hd m i) ∧ gE m k (hd m i) < gE m i (hd m i) := by
        constructor
        · intro h k hk
          have hmem : m.getD k [] ∈ m.take i := by
            rw [List.getD_eq_getElem?_getD, List.getElem?_eq_getElem (by omega : k < m.length)]
            exact List.mem_take_iff_getElem.mpr ⟨k, by omega, rfl⟩
          have := h _ hmem
          simpa [gE] using this
        · intro h q hq
          obtain ⟨k, hk, rfl⟩ := List.mem_take_iff_getElem.mp hq
          have hkm : k < m.length := by omega
          have := h k (by omega)
          unfold gE at this
          rw [List.getD_eq_getElem?_getD (l := m) (i := k), List.getElem?_eq_getElem hkm] at this
          have h2 : 0 ≤ (m[k]).getD (hd m i) 0 ∧ (m[k]).getD (hd m i) 0 < gE m i (hd m i) := this
          rw [decide_eq_true h2.1, decide_eq_true h2.2]
          rfl
      rw [e]
      constructor
      · rintro ⟨a, b⟩; exact ⟨by omega, b⟩
      · rintro ⟨a, b⟩; exact ⟨by omega, b⟩
  constructor
  · rintro ⟨h1, h2⟩
    have mono : ∀ d i, i + d + 1 < m.length → hd m (i + d + 1) = wd m ∨ hd m i < hd m (i + d + 1) := fun d => by
      induction d with
      | zero => exact fun i hi => h1 i hi
      | succ d ih =>
        intro i hi
        have a1 := ih i (by omega)
        have a2 := h1 (i + d + 1) (by omega)
        rw [show i + (d + 1) + 1 = i + d + 1 + 1 by omega]
        have a3 := hd_or hw (i := i + d + 1 + 1) (by omega)
        rcases a2 with a2 | a2
        · exact .inl a2
        · rcases a1 with a1 | a1
          · rcases a3 with ⟨_, a3⟩ | ⟨_, a3⟩
            · exact .inl a3
            · omega
          · exact .inr (by omega)
    have mono2 : ∀ i j, i < j → j < m.length → hd m j = wd m ∨ hd m i < hd m j := fun i j hij hj => by
      have := mono (j - i - 1) i (by omega)
      rwa [show i + (j - i - 1) + 1 = j by omega] at this
    intro i hi
    refine ⟨fun hz k hk hk2 => ?_, fun hlt => ?_⟩
    · by_cases he : i = k
      · rw [← he]; exact hz
      · rcases mono2 i k (by omega) hk2 with h | h
        · exact h
        · rcases hd_or hw hk2 with ⟨_, q⟩ | ⟨_, q⟩ <;> omega
    · have h3 := (inr i hi hlt).mp (h2 i (List.mem_range.mpr hi))
      have hne : gE m i (hd m i) ≠ 0 := by
        rcases hd_or hw hi with ⟨_, q⟩ | ⟨q1, _⟩
        · omega
        · exact (leadF_lt q1).2.1
      refine ⟨by omega, fun k hk => ⟨?_, h3.2 k hk⟩⟩
      rcases mono2 k i hk hi with h | h <;> omega
  · intro h
    refine ⟨fun i hi => ?_, fun i hi => ?_⟩
    · rcases hd_or hw hi with ⟨_, q⟩ | ⟨_, q⟩
      · exact .inl q
      · exact .inr (((h (i + 1) hi).2 q).2 i (by omega)).1
    · rw [List.mem_range] at hi
      rcases hd_or hw hi with ⟨q1, q⟩ | ⟨_, q⟩
      · unfold inR
        rw [q1]
      · have h3 := (h i hi).2 q
        exact (inr i hi q).mpr ⟨by omega, fun k hk => (h3.2 k hk).2⟩
/-! ### what else is told of the result -/
end
end
section
/-! ### cells of a matrix -/
section
variable {g : Pg}
def matC (b : Nat) (m : List (List Int)) : Mem := some ((List.range m.length).map fun i => .adr (b + 1 + i)) :: m.map rowC
theorem matC_len {b : Nat} {m : List (List Int)} : (matC b m).length = 1 + m.length := by
  unfold matC
  rw [List.length_cons, List.length_map]
  omega
theorem mat_top {pre post : Mem} {b : Nat} {m : List (List Int)} (h : pre.length = b) : (pre ++ matC b m ++ post)[b]? = some (some ((List.range m.length).map fun i => .adr (b + 1 + i))) := by
  rw [List.append_assoc, List.getElem?_append_right (by omega), h, Nat.sub_self]
  rfl
theorem mat_get {pre post : Mem} {b i : Nat} {m : List (List Int)} (h : pre.length = b) (hi : i < m.length) : (pre ++ matC b m ++ post)[b + 1 + i]? = some (rowC (m.getD i [])) := by
  rw [List.append_assoc, List.getElem?_append_right (by omega), h, show b + 1 + i - b = i + 1 by omega, List.getElem?_append_left (by rw [matC_len]; omega)]
  show (m.map rowC)[i]? = _
  rw [List.getElem?_map, List.getElem?_eq_getElem hi, List.getD_eq_getElem?_getD, List.getElem?_eq_getElem hi]
  rfl
theorem mat_set {pre post : Mem} {b i : Nat} {m : List (List Int)} {r : List Int} (h : pre.length = b) (hi : i < m.length) : (pre ++ matC b m ++ post).set (b + 1 + i) (rowC r) = pre ++ matC b (m.set i r) ++ post := by
  rw [List.append_assoc, List.set_append_right _ _ (by omega), h, show b + 1 + i - b = i + 1 by omega, List.set_append_left _ _ (by rw [matC_len]; omega), List.append_assoc]
  congr 2
  show _ :: (m.map rowC).set i (rowC r) = some ((List.range (m.set i r).length).map _) :: (m.set i r).map rowC
  rw [List.length_set, List.map_set]
theorem rows_view {M : Mem} : ∀ (m : List (List Int)) (k : Nat), (∀ i, i < m.length → M[k + i]? = some (rowC (m.getD i []))) → Views M ((List.range m.length).map fun i => .adr (k + i)) (m.map lV)
  | [], _, _ => .nil
  | r :: m, k, h => by
    rw [List.length_cons, List.range_succ_eq_map, List.map_cons, List.map_map, List.map_cons]
    refine .cons (.cel (h 0 (by simp)) (Views.ints _)) ?_
    have := rows_view m (k + 1) fun i hi => by
      have := h (i + 1) (by simpa using hi)
      rw [show k + 1 + i = k + (i + 1) by omega]
      exact this
    have e : ((fun i => O.adr (k + i)) ∘ Nat.succ) = fun i => O.adr (k + 1 + i) := by
      funext i
      show O.adr (k + (i + 1)) = _
      congr 1
      omega
    rw [e]
    exact this
theorem mat_view {pre post : Mem} {b : Nat} {m : List (List Int)} (h : pre.length = b) : View (pre ++ matC b m ++ post) (.adr b) (lM m) := .cel (mat_top h) (rows_view m (b + 1) fun i hi => mat_get h hi)
theorem row_view {M : Mem} {k : Nat} {v : List Int} (h : M[k]? = some (rowC v)) : View M (.adr k) (lV v) := .cel h (Views.ints _)
theorem mat_view' {pre : Mem} {b : Nat} {m : List (List Int)} (h : pre.length = b) : View (pre ++ matC b m) (.adr b) (lM m) := by
  have := mat_view (pre := pre) (post := []) (m := m) h
  rw [List.append_nil] at this
  exact this
theorem mat_app {pre : Mem} {m : List (List Int)} {r : List Int} : (pre ++ matC pre.length m ++ [rowC r]).set pre.length (some (((List.range m.length).map fun i => .adr (pre.length + 1 + i)) ++ [.adr (pre.length + 1 + m.length)])) = pre ++ matC pre.length (m ++ [r]) := by
  rw [List.append_assoc, List.set_append_right _ _ (Nat.le_refl _), Nat.sub_self]
  congr 1
  show some _ :: (m.map rowC ++ [rowC r]) = some ((List.range (m ++ [r]).length).map _) :: (m ++ [r]).map rowC
  rw [List.length_append, List.length_singleton, List.range_succ, List.map_append, List.map_append]
  rfl
theorem Views.set {M : Mem} {d : D} : ∀ {os : List O} {ds : List D} (i : Nat), Views M os ds → Views M (os.set i (.dat d)) (ds.set i d)
  | _, _, _, .nil => .nil
  | _, _, 0, .cons _ r => .cons (.dat _) r
  | _, _, i + 1, .cons h r => .cons h (Views.set i r)
section
variable {C : Cc} {E : List O} {M : Mem} {elt iter : Expr} {p : Pos} {x : Str} {scope : Scope} {own : List (Str × Nat)} {d : D}
/-- [elt for x in xs], each element a new cell of numbers -/
theorem LC.lNest {α : Type} (jx : Nat) {pre : Mem} {xs : List α} {f : α → D} (r : α → List Int) (ok : blkC C.N C.sc scope own = true) (nd : C.N.Nodup) (ho : own.map (·.2) = [jx]) (h : EV C iter E M (.dat d) pre) (hd : seqD d = some (xs.map f)) (hz : xs.length < 100000)
    (step : ∀ y ∈ xs, ∀ M, EV (C.blk scope) elt ((wipeE E [jx]).set jx (.dat (f y))) M (.adr M.length) (M ++ [rowC (r y)]))
    (hi : C.N[jx]? = some x := by rfl) (hx : Loc (C.blk scope).sc x := by first | exact Or.inl rfl | exact Or.inr rfl) (hf' : (C.blk scope).fn x = true ∨ (C.blk scope).sc.names.lookup x = some .local := by first | exact .inl rfl | exact .inr rfl)
    (hf : ∀ env x, foldedSetIterable iter env x = pure x := by intro _ _; rfl) : LC C elt (.Name x p) iter [] scope own E M (.adr pre.length) (pre ++ matC pre.length (xs.map r)) := by
  have key := LC.lX (C := C) (elt := elt) (p := p) (x := x) jx (xs := xs) (f := f) (M1 := pre) (fun k => pre ++ matC pre.length ((xs.take k).map r)) (fun k => (List.range k).map fun q => .adr (pre.length + 1 + q)) ok nd ho h hd rfl rfl (fun i hi' => by
    have hl : ((xs.take i).map r).length = i := by rw [List.length_map, List.length_take]; omega
    have hml : (pre ++ matC pre.length ((xs.take i).map r)).length = pre.length + 1 + i := by rw [List.length_append, matC_len, hl]; omega
    refine ⟨.adr (pre.length + 1 + i), pre ++ matC pre.length ((xs.take i).map r) ++ [rowC (r xs[i])], ?_, ?_, ?_, ?_, ?_⟩
    · rw [← hml]
      exact step _ (List.getElem_mem hi') _
    · rw [mat_top rfl, hl]
    · rw [List.length_map, List.length_range]; omega
    · have := mat_app (pre := pre) (m := (xs.take i).map r) (r := r xs[i])
      rw [hl] at this
      rw [this, List.take_succ_eq_append_getElem hi', List.map_append]
      rfl
    · rw [List.range_succ, List.map_append]
      rfl) hi hx hf' hf
  rw [List.take_length] at key
  exact key
end
end
section
/-- a matrix of cells frozen -/
def mixF (b : Nat) (m : List (List Int)) (k : Nat) : List O := (List.range m.length).map fun i => if i < k then .dat (lV (m.getD i [])) else .adr (b + 1 + i)
theorem mixF_set {b k : Nat} {m : List (List Int)} (hk : k < m.length) : (mixF b m k).set k (.dat (lV (m.getD k []))) = mixF b m (k + 1) := by
  unfold mixF
  refine List.ext_getElem (by rw [List.length_set, List.length_map, List.length_map]) fun i h1 h2 => ?_
  rw [List.getElem_set, List.getElem_map, List.getElem_map, List.getElem_range]
  by_cases e : k = i
  · subst e
    rw [if_pos rfl, if_pos (by omega)]
  · rw [if_neg e]
    by_cases hl : i < k
    · rw [if_pos hl, if_pos (by omega)]
    · rw [if_neg hl, if_neg (by omega)]
theorem mixF_end {b : Nat} {m : List (List Int)} : mixF b m m.length = (m.map lV).map .dat := by
  unfold mixF
  refine List.ext_getElem (by rw [List.length_map, List.length_map, List.length_map, List.length_range]) fun i h1 h2 => ?_
  have hi : i < m.length := by rwa [List.length_map, List.length_range] at h1
  rw [List.getElem_map, List.getElem_range, if_pos hi, List.getElem_map, List.getElem_map, List.getD_eq_getElem?_getD, List.getElem?_eq_getElem hi]
  rfl
def frzM (pre : Mem) (m : List (List Int)) (k : Nat) : Mem := pre ++ some (mixF pre.length m k) :: (List.replicate k none ++ (m.drop k).map rowC)
theorem frz0 {pre : Mem} {m : List (List Int)} : frzM pre m 0 = pre ++ matC pre.length m := by
  unfold frzM matC mixF
  rw [List.drop_zero]
  rfl
theorem SB.fzM {C : Cc} {E : List O} {pre : Mem} {m : List (List Int)} {jj : Nat} {sts : List Stmt} {r : Out} (he : E[jj]? = some (.adr pre.length)) (h : SB C sts (E.set jj (.dat (lM m))) (pre ++ none :: List.replicate m.length none) r) : SB C sts E (pre ++ matC pre.length m) r := by
  have top : ∀ k, (frzM pre m k)[pre.length]? = some (some (mixF pre.length m k)) := fun k => by
    unfold frzM
    rw [List.getElem?_append_right (Nat.le_refl _), Nat.sub_self]
    rfl
  have go : ∀ d k, m.length - k = d → k ≤ m.length → SB C sts E (frzM pre m k) r := fun d => by
    induction d with
    | zero =>
      intro k hd hk
      have e : k = m.length := by omega
      subst e
      refine SB.fz (jj := jj) (nn := pre.length) (ds := m.map lV) he (by rw [top, mixF_end]) ?_
      have : (frzM pre m m.length).set pre.length none = pre ++ none :: List.replicate m.length none := by
        unfold frzM
        rw [List.set_append_right _ _ (Nat.le_refl _), Nat.sub_self, List.drop_of_length_le (Nat.le_refl _), List.map_nil, List.append_nil]
        rfl
      rw [this]
      exact h
    | succ d ih =>
      intro k hd hk
      have hk2 : k < m.length := by omega
      have hrow : (frzM pre m k)[pre.length + 1 + k]? = some (some (((m.getD k []).map D.int).map .dat)) := by
        unfold frzM
        rw [List.getElem?_append_right (by omega), show pre.length + 1 + k - pre.length = k + 1 by omega]
        show (List.replicate k none ++ (m.drop k).map rowC)[k]? = _
        rw [List.getElem?_append_right (by rw [List.length_replicate]; exact Nat.le_refl _), List.length_replicate, Nat.sub_self, drop_row hk2]
        rfl
      refine SB.fzC (oc := pre.length) (nn := pre.length + 1 + k) (k := k) (ps := mixF pre.length m k) (ds := (m.getD k []).map D.int) (top k) ?_ (by omega) hrow ?_
      · unfold mixF
        rw [List.getElem?_map, List.getElem?_range hk2]
        show some (if k < k then _ else _) = _
        rw [if_neg (by omega)]
      · have e : ((frzM pre m k).set (pre.length + 1 + k) none).set pre.length (some ((mixF pre.length m k).set k (.dat (lV (m.getD k []))))) = frzM pre m (k + 1) := by
          rw [mixF_set hk2]
          unfold frzM
          rw [List.set_append_right _ _ (by omega), show pre.length + 1 + k - pre.length = k + 1 by omega, List.set_append_right _ _ (Nat.le_refl _), Nat.sub_self]
          congr 1
          show some _ :: ((List.replicate k none ++ (m.drop k).map rowC).set k none) = _
          rw [List.set_append_right _ _ (by rw [List.length_replicate]; exact Nat.le_refl _), List.length_replicate, Nat.sub_self, drop_row hk2, List.replicate_succ']
          congr 1
          rw [List.append_assoc]
          rfl
        rw [e]
        exact ih (k + 1) (by omega) hk2
  rw [← frz0]
  exact go _ 0 rfl (Nat.zero_le _)
end
section
variable {g : Pg}
theorem m1_get {k : List Int} {A : List (List Int)} {i : Nat} (hi : i < A.length) : (rowC k :: matC 1 A)[1 + 1 + i]? = some (rowC (A.getD i [])) := by
  have := mat_get (pre := [rowC k]) (post := []) (b := 1) (m := A) rfl hi
  rw [List.append_nil] at this
  exact this
theorem m1_set {k : List Int} {A : List (List Int)} {i : Nat} {r : List Int} (hi : i < A.length) : (rowC k :: matC 1 A).set (1 + 1 + i) (rowC r) = rowC k :: matC 1 (A.set i r) := by
  have := mat_set (pre := [rowC k]) (post := []) (b := 1) (m := A) (r := r) rfl hi
  rw [List.append_nil, List.append_nil] at this
  exact this
theorem set_wid {A : List (List Int)} {w i : Nat} {r : List Int} (h : ∀ q ∈ A, q.length = w) (hr : r.length = w) : ∀ q ∈ A.set i r, q.length = w := fun q hq => by
  rcases List.mem_or_eq_of_mem_set hq with hq | rfl
  · exact h q hq
  · exact hr
theorem set_bnd {A : List (List Int)} {B i : Nat} {r : List Int} (h : ∀ q ∈ A, ∀ x ∈ q, x.natAbs ≤ B) (hr : ∀ x ∈ r, x.natAbs ≤ B) : ∀ q ∈ A.set i r, ∀ x ∈ q, x.natAbs ≤ B := fun q hq => by
  rcases List.mem_or_eq_of_mem_set hq with hq | rfl
  · exact h q hq
  · exact hr
end
section
variable {g : Pg}
theorem fit_v {f : List Int → D} {v : List Int} (hf : f v = tV v ∨ f v = lV v) (h : v.length < 100000) : Fit 1 (f v) := by
  rcases hf with e | e <;> rw [e] <;> exact ⟨by rw [List.length_map]; exact h, fun x hx => by obtain ⟨y, _, rfl⟩ := List.mem_map.mp hx; exact True.intro⟩
theorem fit_t {m : List (List Int)} (h : m.length < 100000) (hq : ∀ q ∈ m, q.length < 100000) : Fit 2 (tM m) := ⟨by rw [List.length_map]; exact h, fun x hx => by
  obtain ⟨q, hq2, rfl⟩ := List.mem_map.mp hx
  exact fit_v (f := tV) (.inl rfl) (hq q hq2)⟩
theorem fit_l {m : List (List Int)} (h : m.length < 100000) (hq : ∀ q ∈ m, q.length < 100000) : Fit 2 (lM m) := ⟨by rw [List.length_map]; exact h, fun x hx => by
  obtain ⟨q, hq2, rfl⟩ := List.mem_map.mp hx
  exact fit_v (f := lV) (.inr rfl) (hq q hq2)⟩
/-- the law likes what it is due -/
theorem ev_like (W : Wd g) {C : Cc} {n : Nat} {E : List O} {M M1 M2 : Mem} {a b : Expr} {d : D} {p pos : Pos} (hC : C.g = g) (ha : EV C a E M (.dat d) M1) (hb : EV C b E M1 (.dat d) M2) (hf : Fit n d) (hk : Nat.ble (n + 1) C.k = true)
    (hg : C.sc.names.lookup ("_law_like" : Str) = some .globalImplicit := by rfl) (he : ∀ env, starEach [a, b] env = (false, eval a env) :: starEach [b] env := by intro _; rfl) (he2 : ∀ env, starEach [b] env = (false, eval b env) :: starEach [] env := by intro _; rfl) (hpl : ∀ env, (backTo pos (starEach [b] env)).any (·.1) = false := by intro _; rfl) :
    EV C (.Call (.Name "_law_like" p) [a, b] [] pos) E M (.dat (.bl true)) M2 := by
  subst hC
  exact EV.c2 (ok_law_like W n) ha hb ⟨rfl, hf, rfl⟩ hk hg (by decide) he he2 hpl
end
end
section
section
variable {g : Pg}
/-! ### steps over rows -/
def LK8 : List Int := [1, -1, 2, -2, 3, -3, 5, -40]
theorem LK8_ok : ∀ x ∈ LK8, x.natAbs ≤ 2 ^ 100 := by decide
inductive Dd (n : Nat) : D → Prop where
  | turn {i : Nat} : i < n → Dd n (.tup [.str "turn", .int (i : Int)])
  | swap {i j : Nat} : i < n → j < n → j ≠ i → Dd n (.tup [.str "swap", .int (i : Int), .int (j : Int)])
  | add {i j : Nat} {k : Int} : i < n → j < n → j ≠ i → k.natAbs ≤ 2 ^ 100 → Dd n (.tup [.str "add", .int (i : Int), .int (j : Int), .int k])
theorem emod_of {x n : Int} (h0 : 0 ≤ x) (h1 : x < 2 * n) : x % n = if x < n then x else x - n := by
  split
  · exact Int.emod_eq_of_lt h0 (by omega)
  · have : x % n = (x - n) % n := by
      rw [← Int.add_emod_right (x - n) n]
      congr 1
      omega
    rw [this]
    exact Int.emod_eq_of_lt (by omega) (by omega)
theorem deed_run (W : Wd g) {n : Nat} (hn : 1 ≤ n ∧ n ≤ 8) (ns : List Int) : ∃ d ns', Dd n d ∧ Run g n_law_deed s_law_deed 1 [.adr 0, .dat (.int (n : Int))] [rowC ns] (.dat d) [rowC ns'] := by
  have T := ok_law_take W
  have p1 := tk_pos (ns := ns) (b := (n : Int)) (by omega)
  obtain ⟨ki, eki⟩ : ∃ k : Nat, tk ns n = (k : Int) := ⟨(tk ns n).toNat, by omega⟩
  have hki : ki < n := by omega
  let E : O → O → List O := fun i j => [.adr 0, .dat (.int (n : Int)), i, j]
  suffices ∃ d ns' J, Dd n d ∧ SB (mkC g n_law_deed s_law_deed 1) ((defBody s_law_deed).drop 1) (E (.dat (.int (ki : Int))) .no) [rowC (dl 1 ns)] (.rt (.dat d) (rowC ns' :: J)) by
    obtain ⟨d, ns', J, h1, h2⟩ := this
    exact ⟨d, ns', h1, Nat.le_refl _, True.intro, lowR, J, SB.cons (E1 := E (.dat (.int (ki : Int))) .no) (M1 := [rowC (dl 1 ns)]) (ST.set 2 (EV.to (ev_tk (ns := ns) (j := (n : Int)) T (EV.nm 0) (EV.nm 1) rfl (by omega)) (by rw [eki])) c_law_deed.nd) h2⟩
  have ret : ∀ {k : List Int}, SB (mkC g n_law_deed s_law_deed 1) (thenOf ((defBody s_law_deed).getD 1 (.Pass ⟨0, 0, 0, 0⟩))) (E (.dat (.int (ki : Int))) .no) [rowC k] (.rt (.dat (.tup [.str "turn", .int (ki : Int)])) [rowC k]) := fun {k} => SB.one (ST.ret (EV.tup (ds := [.str "turn", .int (ki : Int)]) (EA.cons EV.str (EA.cons (EV.nm 2) EA.nil)) (by show 2 ≤ 100000; decide)))
  by_cases h1 : n = 1
  · exact ⟨_, dl 1 ns, [], .turn hki, SB.stop (ST.yes (ET.to (EW.et (EW.or (k1 := true) (k2 := true) (ET.to (ET.cm (EV.nm 1) EV.int CS.eqI) (decide_eq_true (by omega))) (fun z => nomatch z) (fun _ => rfl))) rfl) ret)⟩
  · by_cases h2 : tk (dl 1 ns) 6 = 0
    · exact ⟨_, dl 2 ns, [], .turn hki, SB.stop (ST.yes (ET.to (EW.et (EW.or (k1 := false) (k2 := true) (ET.to (ET.cm (EV.nm 1) EV.int CS.eqI) (decide_eq_false (by omega))) (fun _ => EW.or1 (ET.to (ET.cm (ev_tk (ns := dl 1 ns) T (EV.nm 0) EV.int rfl (by decide)) EV.int CS.eqI) (decide_eq_true h2))) (fun z => nomatch z))) rfl) ret)⟩
    · have p2 := tk_pos (ns := dl 2 ns) (b := (n : Int) - 1) (by omega)
      have p3 := tk_pos (ns := dl 4 ns) (b := 8) (by decide)
      have hj : ((ki : Int) + 1 + tk (dl 2 ns) ((n : Int) - 1)) % (n : Int) = if (ki : Int) + 1 + tk (dl 2 ns) ((n : Int) - 1) < (n : Int) then (ki : Int) + 1 + tk (dl 2 ns) ((n : Int) - 1) else (ki : Int) + 1 + tk (dl 2 ns) ((n : Int) - 1) - (n : Int) := emod_of (by omega) (by omega)
      obtain ⟨kj, ekj⟩ : ∃ k : Nat, ((ki : Int) + 1 + tk (dl 2 ns) ((n : Int) - 1)) % (n : Int) = (k : Int) := ⟨(((ki : Int) + 1 + tk (dl 2 ns) ((n : Int) - 1)) % (n : Int)).toNat, by rw [hj]; split <;> omega⟩
      have hkj : kj < n ∧ kj ≠ ki := by
        rw [ekj] at hj
        split at hj <;> exact ⟨by omega, by omega⟩
      have no1 : ∀ {r : Out} {rest : List Stmt} {p : Pos} {ys : List Stmt}, SB (mkC g n_law_deed s_law_deed 1) rest (E (.dat (.int (ki : Int))) .no) [rowC (dl 2 ns)] r → SB (mkC g n_law_deed s_law_deed 1) (.If (ifOf ((defBody s_law_deed).getD 1 (.Pass ⟨0, 0, 0, 0⟩))) ys [] p :: rest) (E (.dat (.int (ki : Int))) .no) [rowC (dl 1 ns)] r := fun {r rest p ys} h => SB.cons (ST.no (ET.to (EW.et (EW.or (k1 := false) (k2 := false) (ET.to (ET.cm (EV.nm 1) EV.int CS.eqI) (decide_eq_false (by omega))) (fun _ => EW.or1 (ET.to (ET.cm (ev_tk (ns := dl 1 ns) T (EV.nm 0) EV.int rfl (by decide)) EV.int CS.eqI) (decide_eq_false h2))) (fun z => nomatch z))) rfl) SB.nil) h
      have sj : ∀ {r : Out} {rest : List Stmt}, SB (mkC g n_law_deed s_law_deed 1) rest (E (.dat (.int (ki : Int))) (.dat (.int (kj : Int)))) [rowC (dl 3 ns)] r → SB (mkC g n_law_deed s_law_deed 1) ((defBody s_law_deed).getD 2 (.Pass ⟨0, 0, 0, 0⟩) :: rest) (E (.dat (.int (ki : Int))) .no) [rowC (dl 2 ns)] r := fun {r rest} h => SB.cons (E1 := E (.dat (.int (ki : Int))) (.dat (.int (kj : Int)))) (M1 := [rowC (dl 3 ns)]) (ST.set 3 (EV.to (EV.mod (EV.intI (EV.add (EV.add (EV.nm 2) EV.int) (ev_tk (ns := dl 2 ns) (j := (n : Int) - 1) T (EV.nm 0) (EV.sub (EV.nm 1) EV.int) rfl (by omega))) W.b.int) (EV.nm 1) (by omega)) (by rw [ekj])) c_law_deed.nd) h
      by_cases h3 : tk (dl 3 ns) 5 = 0
      · exact ⟨_, dl 4 ns, [], .swap hki hkj.1 hkj.2, no1 (sj (SB.stop (ST.yes (ET.to (ET.cm (ev_tk (ns := dl 3 ns) T (EV.nm 0) EV.int rfl (by decide)) EV.int CS.eqI) (decide_eq_true h3)) (SB.one (ST.ret (EV.tup (ds := [.str "swap", .int (ki : Int), .int (kj : Int)]) (EA.cons EV.str (EA.cons (EV.nm 2) (EA.cons (EV.nm 3) EA.nil))) (by show 3 ≤ 100000; decide)))))))⟩
      · exact ⟨_, dl 5 ns, [], .add hki hkj.1 hkj.2 (LK8_ok _ (pick_mem (L := LK8) p3)), no1 (sj (SB.cons (ST.no (ET.to (ET.cm (ev_tk (ns := dl 3 ns) T (EV.nm 0) EV.int rfl (by decide)) EV.int CS.eqI) (decide_eq_false h3)) SB.nil) (SB.one (ST.ret (EV.tup (ds := [.str "add", .int (ki : Int), .int (kj : Int), .int (pick LK8 (tk (dl 4 ns) 8))]) (EA.cons EV.str (EA.cons (EV.nm 2) (EA.cons (EV.nm 3) (EA.cons (EV.ix (EV.lst (ds := LK8.map D.int) (EA.cons EV.int (EA.cons (EV.neg EV.int) (EA.cons EV.int (EA.cons (EV.neg EV.int) (EA.cons EV.int (EA.cons (EV.neg EV.int) (EA.cons EV.int (EA.cons (EV.neg EV.int) EA.nil)))))))) (by decide)) (ev_tk (ns := dl 4 ns) T (EV.nm 0) EV.int rfl (by decide)) (pick_at p3)) EA.nil)))) (by show 4 ≤ 100000; decide))))))⟩
theorem fn_deed (W : Wd g) : FN g "_law_deed" 2 (fun os M o M' => os.length = 2 ∧ Run g n_law_deed s_law_deed 1 os M o M') := FN.run (ps := ["row", "n"]) W.t_law_deed c_law_deed (fun _ _ _ _ _ _ us hl => match us, hl with | [_, _], _ => rfl)
/-- a step led -/
inductive Led (m : List (List Int)) : D → List (List Int) → Prop where
  | turn {i : Nat} : i < m.length → Led m (.tup [.str "turn", .int (i : Int)]) (m.set i ((m.getD i []).map fun x => 0 - x))
  | swap {i j : Nat} : i < m.length → j < m.length → j ≠ i → Led m (.tup [.str "swap", .int (i : Int), .int (j : Int)]) ((m.set i (m.getD j [])).set j (m.getD i []))
  | add {i j : Nat} {k : Int} : i < m.length → j < m.length → j ≠ i → k.natAbs ≤ 2 ^ 100 → Led m (.tup [.str "add", .int (i : Int), .int (j : Int), .int k]) (m.set i ((List.range (m.getD i []).length).map fun c => gE m i c + k * gE m j c))
theorem led_ex {m : List (List Int)} {d : D} (h : Dd m.length d) : ∃ m', Led m d m' := by
  cases h with
  | turn h1 => exact ⟨_, .turn h1⟩
  | swap h1 h2 h3 => exact ⟨_, .swap h1 h2 h3⟩
  | add h1 h2 h3 h4 => exact ⟨_, .add h1 h2 h3 h4⟩
theorem Led.len {m m' : List (List Int)} {d : D} (h : Led m d m') : m'.length = m.length := by
  cases h <;> simp only [List.length_set]
theorem Led.wid {m m' : List (List Int)} {d : D} {w : Nat} (h : Led m d m') (hw : ∀ q ∈ m, q.length = w) : ∀ q ∈ m', q.length = w := fun q hq => by
  cases h with
  | turn h1 =>
    rcases List.mem_or_eq_of_mem_set hq with hq | rfl
    · exact hw q hq
    · rw [List.length_map]
      exact hw _ (mem_getD h1)
  | swap h1 h2 h3 =>
    rcases List.mem_or_eq_of_mem_set hq with hq | rfl
    · rcases List.mem_or_eq_of_mem_set hq with hq | rfl
      · exact hw q hq
      · exact hw _ (mem_getD h2)
    · exact hw _ (mem_getD h1)
  | add h1 h2 h3 h4 =>
    rcases List.mem_or_eq_of_mem_set hq with hq | rfl
    · exact hw q hq
    · rw [List.length_map, List.length_range]
      exact hw _ (mem_getD h1)
theorem Led.sub {m m' : List (List Int)} {d : D} {w : Nat} (h : Led m d m') (hw : ∀ q ∈ m, q.length = w) : Sub m' m ∧ Sub m m' := by
  cases h with
  | @turn i h1 =>
    have e : m.set i ((m.getD i []).map fun x => 0 - x) = negL m i := by
      unfold negL
      congr 2
      funext x
      exact Int.zero_sub x
    rw [e]
    exact sub_neg h1
  | swap h1 h2 h3 => exact sub_swap h1 h2
  | @add i j k h1 h2 h3 h4 =>
    have hi := hw _ (mem_getD h1 : m.getD i [] ∈ m)
    have hj := hw _ (mem_getD h2 : m.getD j [] ∈ m)
    have e : m.set i ((List.range (m.getD i []).length).map fun c => gE m i c + k * gE m j c) = takeL m i (-k) j := by
      unfold takeL lessV
      congr 1
      refine List.ext_getElem (by rw [List.length_map, List.length_range, List.length_map, List.length_zip]; omega) fun c c1 c2 => ?_
      rw [List.length_map, List.length_range] at c1
      rw [List.getElem_map, List.getElem_range, List.getElem_map, List.getElem_zip]
      unfold gE
      rw [List.getD_eq_getElem?_getD (l := m.getD i []), List.getElem?_eq_getElem c1, List.getD_eq_getElem?_getD (l := m.getD j []), List.getElem?_eq_getElem (by omega)]
      show (m.getD i [])[c] + k * (m.getD j [])[c] = (m.getD i [])[c] - -k * (m.getD j [])[c]
      rw [Int.neg_mul]
      omega
    rw [e]
    exact sub_take h1 h2 (fun z => h3 z.symm) hw
end
section
variable {g : Pg}
theorem celS {m : List (List Int)} {i : Nat} {v : List Int} : (some (((m.map lV).map O.dat).set i (.dat (lV v))) : Option (List O)) = some (((m.set i v).map lV).map O.dat) := by
  rw [List.map_set, List.map_set]
theorem lV_map {α : Type} {f : α → Int} {xs : List α} : D.lst (xs.map fun x => D.int (f x)) = lV (xs.map f) := by
  show _ = D.lst ((xs.map f).map D.int)
  rw [List.map_map]
  rfl
/-- numbers of at most 200 bits -/
def Bd (m : List (List Int)) : Prop := ∀ q ∈ m, ∀ x ∈ q, x.natAbs ≤ 2 ^ 200
theorem getD_bd {v : List Int} {B j : Nat} (h : ∀ x ∈ v, x.natAbs ≤ B) : (v.getD j 0).natAbs ≤ B := by
  by_cases hj : j < v.length
  · exact h _ (mem_getD hj)
  · rw [List.getD_eq_getElem?_getD, List.getElem?_eq_none (by omega)]
    exact Nat.zero_le _
theorem gE_bd {m : List (List Int)} {B i j : Nat} (h : ∀ q ∈ m, ∀ x ∈ q, x.natAbs ≤ B) : (gE m i j).natAbs ≤ B := by
  unfold gE
  by_cases hi : i < m.length
  · exact getD_bd (h _ (mem_getD hi))
  · rw [List.getD_eq_getElem?_getD (l := m), List.getElem?_eq_none (by omega)]
    exact Nat.zero_le _
theorem Bd.gE {m : List (List Int)} (h : Bd m) (i j : Nat) : (Ab.gE m i j).natAbs ≤ 2 ^ 200 := gE_bd h
theorem Bd.of {m : List (List Int)} {B : Nat} (h : ∀ q ∈ m, ∀ x ∈ q, x.natAbs ≤ B) (hB : B ≤ 2 ^ 200) : Bd m := fun q hq x hx => Nat.le_trans (h q hq x hx) hB
theorem ok_law_lead (W : Wd g) : FN g "_law_lead" 1 (P2 fun d e r => ∃ m m', d = lM m ∧ Led m e m' ∧ m.length < 1000 ∧ (∀ q ∈ m, q.length < 1000) ∧ Bd m ∧ (∀ i j, i < m.length → j < m.length → (m.getD i []).length = (m.getD j []).length) ∧ r = lM m') := by
  refine FN.mk2x' W.t_law_lead c_law_lead (fun _ _ _ _ _ _ us hl => match us, hl with | [_, _], _ => rfl) (fun d e r h => ?_)
  obtain ⟨m, m', rfl, hL, hz, hz2, hbd, hrc, rfl⟩ := h
  let E : D → O → O → List O := fun e t i => [.dat (lM m), .dat e, t, i, .no, .no]
  have hcl : ∀ x : List (List Int), ((x.map lV).map O.dat).length = x.length := fun x => by rw [List.length_map, List.length_map]
  have fin : ∀ {e : D} {i : O}, SB (mkC g n_law_lead s_law_lead 0) ((defBody s_law_lead).drop 3) (E e (.adr 0) i) [some ((m'.map lV).map .dat)] (.rt (.dat (lM m')) [none]) := fun {e i} => SB.fz (jj := 2) (nn := 0) (ds := m'.map lV) rfl rfl (SB.one (ST.ret (EV.nm 2)))
  have start : ∀ {e : D} {i : Nat} {r : Out}, ixD e 1 = some (.int (i : Int)) → SB (mkC g n_law_lead s_law_lead 0) ((defBody s_law_lead).drop 2) (E e (.adr 0) (.dat (.int (i : Int)))) [some ((m.map lV).map .dat)] r → SB (mkC g n_law_lead s_law_lead 0) (defBody s_law_lead) (pad n_law_lead [.dat (lM m), .dat e]) [] r := fun {e i r} he h => SB.cons (E1 := E e (.adr 0) .no) (M1 := [some ((m.map lV).map .dat)]) (ST.set 2 (EV.listN (EV.nm 0) rfl W.b.list) c_law_lead.nd) (SB.cons (E1 := E e (.adr 0) (.dat (.int (i : Int)))) (M1 := [some ((m.map lV).map .dat)]) (ST.set 3 (EV.ix (EV.nm 1) EV.int he) c_law_lead.nd) h)
  refine ⟨[none], ?_⟩
  cases hL with
  | @turn i h1 =>
    refine start (i := i) rfl (SB.cons (E1 := E (.tup [.str "turn", .int (i : Int)]) (.adr 0) (.dat (.int (i : Int)))) (M1 := [some (((m.set i ((m.getD i []).map fun x => 0 - x)).map lV).map .dat)]) (ST.yes (ET.to (ET.cm (EV.ix (EV.nm 1) EV.int (by rfl)) EV.str CS.eqS) (by rfl)) (SB.one (ST.to (ST.asg (LC.ev (LC.lM 4 (xs := m.getD i []) (f := D.int) (g := fun x => .int (0 - x)) (own := [("x", 4)]) (by rfl) c_law_lead.nd rfl (EV.ix (EV.nm 0) (EV.nm 3) (ix_lM h1)) rfl (Nat.le_refl _) (OkM.dat OkM.nil) (by have := hz2 _ (mem_getD h1 : m.getD i [] ∈ m); omega) (fun x hx M => EV.sub EV.int (EV.nm 4)))) (EG.sub (n := 0) (jj := i) (ps := (m.map lV).map O.dat) (EV.nm 2) (EV.nm 3) rfl (by rw [hcl]; exact ixN_of h1))) ?_))) fin)
    show Out.nx _ [some (((m.map lV).map O.dat).set i (.dat (.lst ((m.getD i []).map fun x => .int (0 - x)))))] = _
    rw [lV_map, celS]
  | @swap i j h1 h2 h3 =>
    refine start (i := i) rfl (SB.cons (E1 := E (.tup [.str "swap", .int (i : Int), .int (j : Int)]) (.adr 0) (.dat (.int (i : Int)))) (M1 := [some ((((m.set i (m.getD j [])).set j (m.getD i [])).map lV).map .dat)]) (ST.no (ET.to (ET.cm (EV.ix (EV.nm 1) EV.int (by rfl)) EV.str CS.eqS) (by rfl)) (SB.one (ST.yes (ET.to (ET.cm (EV.ix (EV.nm 1) EV.int (by rfl)) EV.str CS.eqS) (by rfl)) (SB.cons (E1 := E (.tup [.str "swap", .int (i : Int), .int (j : Int)]) (.adr 0) (.dat (.int (i : Int)))) (M1 := [some (((m.set i (m.getD j [])).map lV).map .dat)]) (ST.to (ST.asg (EV.ix (EV.nm 0) (EV.ix (EV.nm 1) EV.int (by rfl)) (ix_lM h2)) (EG.sub (n := 0) (jj := i) (ps := (m.map lV).map O.dat) (EV.nm 2) (EV.nm 3) rfl (by rw [hcl]; exact ixN_of h1))) ?_) (SB.one (ST.to (ST.asg (EV.ix (EV.nm 0) (EV.nm 3) (ix_lM h1)) (EG.sub (n := 0) (jj := j) (ps := ((m.set i (m.getD j [])).map lV).map O.dat) (EV.nm 2) (EV.ix (EV.nm 1) EV.int (by rfl)) rfl (by rw [hcl, List.length_set]; exact ixN_of h2))) ?_)))))) fin)
    · show Out.nx _ [some (((m.map lV).map O.dat).set i (.dat (lV (m.getD j []))))] = _
      rw [celS]
    · show Out.nx _ [some ((((m.set i (m.getD j [])).map lV).map O.dat).set j (.dat (lV (m.getD i []))))] = _
      rw [celS]
  | @add i j k h1 h2 h3 h4 =>
    have hij := hrc i j h1 h2
    refine start (i := i) rfl (SB.cons (E1 := E (.tup [.str "add", .int (i : Int), .int (j : Int), .int k]) (.adr 0) (.dat (.int (i : Int)))) (M1 := [some (((m.set i ((List.range (m.getD i []).length).map fun c => gE m i c + k * gE m j c)).map lV).map .dat)]) (ST.no (ET.to (ET.cm (EV.ix (EV.nm 1) EV.int (by rfl)) EV.str CS.eqS) (by rfl)) (SB.one (ST.no (ET.to (ET.cm (EV.ix (EV.nm 1) EV.int (by rfl)) EV.str CS.eqS) (by rfl)) (SB.one (ST.to (ST.asg (LC.ev (LC.lR 5 (j := ((m.getD i []).length : Int)) (g := fun c => .int (gE m i c + k * gE m j c)) (own := [("c", 5)]) (by rfl) c_law_lead.nd rfl (EV.len (EV.ix (EV.nm 0) (EV.nm 3) (ix_lM h1)) len_lV W.b.len) W.b.range (Nat.le_refl _) (OkM.dat OkM.nil) (by have := hz2 _ (mem_getD h1 : m.getD i [] ∈ m); omega) (fun c hc M => EV.add (ev_at sq_l (EV.nm 0) (EV.nm 3) (EV.nm 5) h1 (by omega)) (EV.mul (EV.ix (EV.nm 1) EV.int (by rfl)) (ev_at sq_l (EV.nm 0) (EV.ix (EV.nm 1) EV.int (by rfl)) (EV.nm 5) h2 (by omega)) (mulOk_bits h4 (hbd.gE j c) (by decide)))))) (EG.sub (n := 0) (jj := i) (ps := (m.map lV).map O.dat) (EV.nm 2) (EV.nm 3) rfl (by rw [hcl]; exact ixN_of h1))) ?_))))) fin)
    rw [Int.toNat_natCast]
    show Out.nx _ [some (((m.map lV).map O.dat).set i (.dat (.lst ((List.range (m.getD i []).length).map fun c => .int (gE m i c + k * gE m j c)))))] = _
    rw [lV_map, celS]
end
section
variable {g : Pg}
abbrev colC (l : List Nat) : Option (List O) := some ((l.map fun (k : Nat) => D.int (k : Int)).map O.dat)
theorem colC_app {l : List Nat} {k : Nat} : (some ((l.map fun (k : Nat) => D.int (k : Int)).map O.dat ++ [O.dat (.int (k : Int))]) : Option (List O)) = colC (l ++ [k]) := by
  show _ = some _
  rw [List.map_append, List.map_append]
  rfl
theorem getD_set {v : List Int} {j k : Nat} {x : Int} (h : j < v.length) : (v.set j x).getD k 0 = if k = j then x else v.getD k 0 := by
  rw [List.getD_eq_getElem?_getD, List.getElem?_set, List.getD_eq_getElem?_getD]
  by_cases e : k = j
  · rw [if_pos e, if_pos e.symm, if_pos h]
    rfl
  · rw [if_neg e, if_neg (fun z => e z.symm)]
theorem r3_get {a b c x : Option (List O)} (i : Nat) : (a :: b :: c :: (List.replicate i (none : Option (List O)) ++ [x]))[i + 3]? = some x := by
  show (List.replicate i none ++ [x])[i]? = _
  rw [List.getElem?_append_right (by rw [List.length_replicate]; exact Nat.le_refl _), List.length_replicate, Nat.sub_self]
  rfl
theorem r3_set {a b c x y : Option (List O)} (i : Nat) : (a :: b :: c :: (List.replicate i (none : Option (List O)) ++ [x])).set (i + 3) y = a :: b :: c :: (List.replicate i none ++ [y]) := by
  show a :: b :: c :: (List.replicate i none ++ [x]).set i y = _
  rw [List.set_append_right _ _ (by rw [List.length_replicate]; exact Nat.le_refl _), List.length_replicate, Nat.sub_self]
  rfl
def LW7 : List Int := [1, 1, 2, 3, 4, 6, 12]
theorem LW7_ok : ∀ x ∈ LW7, 1 ≤ x ∧ x ≤ 12 := by decide
structure RowF (m : Nat) (cols : List Nat) (ws : List Int) (i : Nat) (v : List Int) : Prop where
  len : v.length = m
  num : ∀ x ∈ v, x.natAbs ≤ 12
  left : ∀ j, j < cols.getD i 0 → v.getD j 0 = 0
  pv : v.getD (cols.getD i 0) 0 = ws.getD i 0
  abv : ∀ k, i < k → k < cols.length → 0 ≤ v.getD (cols.getD k 0) 0 ∧ v.getD (cols.getD k 0) 0 < ws.getD k 0
structure Fm (n m : Nat) (T : List (List Int)) (cols : List Nat) (ws : List Int) : Prop where
  inc : cols.Pairwise (· < ·)
  lt : ∀ c ∈ cols, c < m
  len : cols.length ≤ n
  wl : ws.length = cols.length
  wn : ∀ x ∈ ws, 1 ≤ x ∧ x ≤ 12
  tl : T.length = cols.length
  row : ∀ i, i < cols.length → RowF m cols ws i (T.getD i [])
theorem set_num {v : List Int} {j : Nat} {x : Int} (h : ∀ y ∈ v, y.natAbs ≤ 12) (hx : x.natAbs ≤ 12) : ∀ y ∈ v.set j x, y.natAbs ≤ 12 := fun y hy => by
  rcases List.mem_or_eq_of_mem_set hy with hy | rfl
  · exact h y hy
  · exact hx
abbrev fb : List Stmt := defBody s_law_form
theorem form_run (W : Wd g) {n m : Nat} {full : Bool} (hn : n ≤ 8) (hm : m ≤ 8) (ns : List Int) : ∃ T cols ws ns', Fm n m T cols ws ∧ Run g n_law_form s_law_form 1 [.adr 0, .dat (.int (n : Int)), .dat (.int (m : Int)), .dat (.bl full)] [rowC ns] (.dat (.tup [lM T, lN cols, lV ws])) [rowC ns'] := by
  have TK := ok_law_take W
  let C := mkC g n_law_form s_law_form 1
  let Fr : O → O → O → O → O → O → O → List O := fun c j w t i l k => [.adr 0, .dat (.int (n : Int)), .dat (.int (m : Int)), .dat (.bl full), c, j, w, t, i, l, k]
  obtain ⟨f, f0, fI, fP⟩ := chain (S := List Int × List Nat) (n := m) (I := fun i s => s.2.Pairwise (· < ·) ∧ (∀ c ∈ s.2, c < i) ∧ s.2.length ≤ n)
    (P := fun i s s' => SB C (bodyOf (fb.getD 1 (.Pass ⟨0, 0, 0, 0⟩))) (Fr (.adr 1) (.dat (.int (i : Int))) .no .no .no .no .no) [rowC s.1, colC s.2] (.nx (Fr (.adr 1) (.dat (.int (i : Int))) .no .no .no .no .no) [rowC s'.1, colC s'.2])) (fun i hi s hs => by
      obtain ⟨k1, cols⟩ := s
      obtain ⟨h1, h2, h3⟩ := hs
      simp only at h1 h2 h3
      have hcl : ((cols.map fun (k : Nat) => D.int (k : Int)).map O.dat).length = cols.length := by rw [List.length_map, List.length_map]
      have push : cols.length < n → (cols ++ [i]).Pairwise (· < ·) ∧ (∀ c ∈ cols ++ [i], c < i + 1) ∧ (cols ++ [i]).length ≤ n := fun hl => by
        refine ⟨?_, fun c hc => ?_, by rw [List.length_append]; exact hl⟩
        · rw [List.pairwise_append]
          exact ⟨h1, List.pairwise_singleton .., fun a ha b hb => by rw [List.mem_singleton.mp hb]; exact h2 a ha⟩
        · rcases List.mem_append.mp hc with hc | hc
          · have := h2 c hc; omega
          · rw [List.mem_singleton.mp hc]; omega
      have keep : cols.Pairwise (· < ·) ∧ (∀ c ∈ cols, c < i + 1) ∧ cols.length ≤ n := ⟨h1, fun c hc => by have := h2 c hc; omega, h3⟩
      have app : ∀ {k : List Int}, SB C (thenOf ((bodyOf (fb.getD 1 (.Pass ⟨0, 0, 0, 0⟩))).getD 0 (.Pass ⟨0, 0, 0, 0⟩))) (Fr (.adr 1) (.dat (.int (i : Int))) .no .no .no .no .no) [rowC k, colC cols] (.nx (Fr (.adr 1) (.dat (.int (i : Int))) .no .no .no .no .no) [rowC k, colC (cols ++ [i])]) := fun {k} => SB.one (ST.to (ST.exp (EV.append (n := 1) (ps := (cols.map fun (k : Nat) => D.int (k : Int)).map O.dat) (EV.nm 4) (EV.nm 5) rfl rfl (by rw [hcl]; omega))) (by rw [← colC_app]; rfl))
      by_cases hl : cols.length < n
      · have hlt : ∀ {k : List Int} {p1 p2 p3 p4 : Pos}, ET C (.Compare (.Call (.Name "len" p1) [.Name "columns" p2] [] p3) [.Lt] [.Name "n" p4] p1) (Fr (.adr 1) (.dat (.int (i : Int))) .no .no .no .no .no) [rowC k, colC cols] true [rowC k, colC cols] := fun {k p1 p2 p3 p4} => ET.to (ET.cm (EV.lenC (EV.nm 4) rfl W.b.len) (EV.nm 1) CS.ltI) (by rw [hcl]; exact decide_eq_true (by omega))
        cases hf : full with
        | true =>
          subst hf
          exact ⟨(k1, cols ++ [i]), SB.one (ST.yes (ET.to (EW.et (EW.and (k1 := true) (k2 := true) (ET.to (ET.cm (EV.lenC (EV.nm 4) rfl W.b.len) (EV.nm 1) CS.ltI) (by rw [hcl]; exact decide_eq_true (by omega))) (fun _ => EW.and1 (EW.et (EW.or (k1 := true) (k2 := true) (ET.val (EV.nm 3)) (fun z => nomatch z) (fun _ => rfl)))) (fun z => nomatch z))) rfl) app), push hl⟩
        | false =>
          subst hf
          by_cases h0 : 0 < tk k1 3
          · exact ⟨(dl 1 k1, cols ++ [i]), SB.one (ST.yes (ET.to (EW.et (EW.and (k1 := true) (k2 := true) (ET.to (ET.cm (EV.lenC (EV.nm 4) rfl W.b.len) (EV.nm 1) CS.ltI) (by rw [hcl]; exact decide_eq_true (by omega))) (fun _ => EW.and1 (EW.et (EW.or (k1 := false) (k2 := true) (ET.val (EV.nm 3)) (fun _ => EW.or1 (ET.to (ET.cm (ev_tk (ns := k1) TK (EV.nm 0) EV.int rfl (by decide)) EV.int CS.gtI) (decide_eq_true h0))) (fun z => nomatch z)))) (fun z => nomatch z))) rfl) app), push hl⟩
          · exact ⟨(dl 1 k1, cols), SB.one (ST.no (M1 := [rowC (dl 1 k1), colC cols]) (ET.to (EW.et (EW.and (k1 := true) (k2 := false) (ET.to (ET.cm (EV.lenC (EV.nm 4) rfl W.b.len) (EV.nm 1) CS.ltI) (by rw [hcl]; exact decide_eq_true (by omega))) (fun _ => EW.and1 (EW.et (EW.or (k1 := false) (k2 := false) (ET.val (EV.nm 3)) (fun _ => EW.or1 (ET.to (ET.cm (ev_tk (ns := k1) TK (EV.nm 0) EV.int rfl (by decide)) EV.int CS.gtI) (decide_eq_false h0))) (fun z => nomatch z)))) (fun z => nomatch z))) rfl) SB.nil), keep⟩
      · exact ⟨(k1, cols), SB.one (ST.no (M1 := [rowC k1, colC cols]) (ET.to (EW.et (EW.and (k1 := false) (k2 := true) (ET.to (ET.cm (EV.lenC (EV.nm 4) rfl W.b.len) (EV.nm 1) CS.ltI) (by rw [hcl]; exact decide_eq_false (by omega))) (fun z => nomatch z) (fun _ => rfl))) rfl) SB.nil), keep⟩) (ns, []) ⟨List.Pairwise.nil, fun c hc => by simp at hc, Nat.zero_le _⟩
  obtain ⟨c1, c2, c3⟩ := fI m (Nat.le_refl m)
  generalize hcols : (f m).2 = cols at c1 c2 c3
  generalize hns1 : (f m).1 = ns1
  let ws : List Int := (List.range cols.length).map fun i => pick LW7 (tk (dl i ns1) 7)
  have wl : ws.length = cols.length := by show (List.map _ _).length = _; rw [List.length_map, List.length_range]
  have wn : ∀ x ∈ ws, 1 ≤ x ∧ x ≤ 12 := fun x hx => by
    obtain ⟨i, _, rfl⟩ := List.mem_map.mp hx
    exact LW7_ok _ (pick_mem (tk_pos (by decide)))
  have wat : ∀ i, i < cols.length → 1 ≤ ws.getD i 0 ∧ ws.getD i 0 ≤ 12 := fun i hi => wn _ (mem_getD (by omega))
  have wsd : D.lst ((List.range cols.length).map fun i => D.int (pick LW7 (tk (dl i ns1) 7))) = lV ws := lV_map
  clear_value ws
  have catl : ∀ i, i < cols.length → cols.getD i 0 < m := fun i hi => c2 _ (mem_getD hi)
  have cinc : ∀ i k, i < k → k < cols.length → cols.getD i 0 < cols.getD k 0 := fun i k hik hk => by
    have := List.pairwise_iff_getElem.mp c1 i k (by omega) hk hik
    rw [List.getD_eq_getElem?_getD, List.getD_eq_getElem?_getD, List.getElem?_eq_getElem hk, List.getElem?_eq_getElem (by omega : i < cols.length)]
    exact this
  let G : O → O → O → O → O → List O := fun j t i l k => Fr (.dat (lN cols)) j (.dat (lV ws)) t i l k
  let Me : List Int → List (List Int) → Nat → Mem := fun k T i => rowC k :: none :: cel T :: List.replicate i none
  let Ml : List Int → List (List Int) → Nat → List Int → Mem := fun k T i v => rowC k :: none :: cel T :: (List.replicate i none ++ [rowC v])
  have lrow : ∀ (k v : List Int) (T : List (List Int)) (i : Nat), (Ml k T i v)[i + 3]? = some (rowC v) := fun k v T i => r3_get i
  obtain ⟨h, h0, hI, hP⟩ := chain (S := List Int × List (List Int)) (n := cols.length) (I := fun i s => s.2.length = i ∧ ∀ a, a < i → RowF m cols ws a (s.2.getD a []))
    (P := fun i s s' => ∃ E2, Fg E2 (G .no (.adr 2) .no .no .no) ∧ SB C (bodyOf (fb.getD 4 (.Pass ⟨0, 0, 0, 0⟩))) (G .no (.adr 2) (.dat (.int (i : Int))) .no .no) (Me s.1 s.2 i) (.nx E2 (Me s'.1 s'.2 (i + 1)))) (fun i hi s hs => by
      obtain ⟨k1, T⟩ := s
      obtain ⟨h1, h2⟩ := hs
      simp only at h1 h2
      have hci := catl i hi
      have hwi := wat i hi
      have lnix : ∀ (a : Nat), a < cols.length → ixD (lN cols) (a : Int) = some (.int (cols.getD a 0 : Int)) := fun a ha => lN_at ha
      -- the numbers behind the head
      obtain ⟨u, u0, uI, uP⟩ := chain (S := List Int × List Int) (n := m - (cols.getD i 0 + 1)) (I := fun t s => s.2.length = m ∧ (∀ x ∈ s.2, x.natAbs ≤ 12) ∧ ∀ j, j ≤ cols.getD i 0 → s.2.getD j 0 = 0)
        (P := fun t s s' => SB C (bodyOf ((bodyOf (fb.getD 4 (.Pass ⟨0, 0, 0, 0⟩))).getD 1 (.Pass ⟨0, 0, 0, 0⟩))) (G (.dat (.int ((cols.getD i 0 + 1 + t : Nat) : Int))) (.adr 2) (.dat (.int (i : Int))) (.adr (i + 3)) .no) (Ml s.1 T i s.2) (.nx (G (.dat (.int ((cols.getD i 0 + 1 + t : Nat) : Int))) (.adr 2) (.dat (.int (i : Int))) (.adr (i + 3)) .no) (Ml s'.1 T i s'.2))) (fun t ht s hs => by
          obtain ⟨k2, v⟩ := s
          obtain ⟨v1, v2, v3⟩ := hs
          simp only at v1 v2 v3
          have p := tk_pos (ns := k2) (b := 19) (by decide)
          refine ⟨(dl 1 k2, v.set (cols.getD i 0 + 1 + t) (tk k2 19 - 9)), SB.one (ST.to (ST.asg (M1 := Ml (dl 1 k2) T i v) (o := .dat (.int (tk k2 19 - 9))) (EV.sub (ev_tk (ns := k2) TK (EV.nm 0) EV.int rfl (by decide)) EV.int) (EG.sub (n := i + 3) (jj := cols.getD i 0 + 1 + t) (ps := (v.map D.int).map O.dat) (EV.nm 9) (EV.nm 5) (lrow _ _ _ _) (by rw [row_len]; exact ixN_of (by omega)))) ?_), by rw [List.length_set]; exact v1, set_num v2 (by omega), fun j hj => ?_⟩
          · show Out.nx _ ((Ml (dl 1 k2) T i v).set (i + 3) _) = _
            rw [r3_set, row_set]
          · rw [getD_set (by omega), if_neg (by omega)]
            exact v3 j hj) (k1, List.replicate m 0) ⟨List.length_replicate, fun x hx => by rw [List.eq_of_mem_replicate hx]; decide, fun j _ => rep_zero⟩
      obtain ⟨u1, u2, u3⟩ := uI _ (Nat.le_refl _)
      generalize hu : u (m - (cols.getD i 0 + 1)) = ue at u1 u2 u3
      obtain ⟨k3, v3⟩ := ue
      simp only at u1 u2 u3
      -- above the heads that follow
      obtain ⟨z, z0, zI, zP⟩ := chain (S := List Int × List Int) (n := cols.length - (i + 1)) (I := fun t s => s.2.length = m ∧ (∀ x ∈ s.2, x.natAbs ≤ 12) ∧ (∀ j, j < cols.getD i 0 → s.2.getD j 0 = 0) ∧ s.2.getD (cols.getD i 0) 0 = ws.getD i 0 ∧ ∀ k, i < k → k < i + 1 + t → 0 ≤ s.2.getD (cols.getD k 0) 0 ∧ s.2.getD (cols.getD k 0) 0 < ws.getD k 0)
        (P := fun t s s' => SB C (bodyOf ((bodyOf (fb.getD 4 (.Pass ⟨0, 0, 0, 0⟩))).getD 3 (.Pass ⟨0, 0, 0, 0⟩))) (G .no (.adr 2) (.dat (.int (i : Int))) (.adr (i + 3)) (.dat (.int ((i + 1 + t : Nat) : Int)))) (Ml s.1 T i s.2) (.nx (G .no (.adr 2) (.dat (.int (i : Int))) (.adr (i + 3)) (.dat (.int ((i + 1 + t : Nat) : Int)))) (Ml s'.1 T i s'.2))) (fun t ht s hs => by
          obtain ⟨k2, v⟩ := s
          obtain ⟨v1, v2, v3, v4, v5⟩ := hs
          simp only at v1 v2 v3 v4 v5
          have hlt : i + 1 + t < cols.length := by omega
          have hw := wat _ hlt
          have hc := catl _ hlt
          have hc2 := cinc i (i + 1 + t) (by omega) hlt
          have p := tk_pos (ns := k2) (b := ws.getD (i + 1 + t) 0) (by omega)
          refine ⟨(dl 1 k2, v.set (cols.getD (i + 1 + t) 0) (tk k2 (ws.getD (i + 1 + t) 0))), SB.one (ST.to (ST.asg (M1 := Ml (dl 1 k2) T i v) (o := .dat (.int (tk k2 (ws.getD (i + 1 + t) 0)))) (ev_tk (ns := k2) TK (EV.nm 0) (EV.ix (EV.nm 6) (EV.nm 10) (ix_lV (by omega))) rfl (by omega)) (EG.sub (n := i + 3) (jj := cols.getD (i + 1 + t) 0) (ps := (v.map D.int).map O.dat) (EV.nm 9) (EV.ix (EV.nm 4) (EV.nm 10) (lnix _ hlt)) (lrow _ _ _ _) (by rw [row_len]; exact ixN_of (by omega)))) ?_), by rw [List.length_set]; exact v1, set_num v2 (by omega), fun j hj => ?_, ?_, fun k hk1 hk2 => ?_⟩
          · show Out.nx _ ((Ml (dl 1 k2) T i v).set (i + 3) _) = _
            rw [r3_set, row_set]
          · rw [getD_set (by omega), if_neg (by omega)]
            exact v3 j hj
          · rw [getD_set (by omega), if_neg (by omega)]
            exact v4
          · rw [getD_set (by omega)]
            by_cases he : k = i + 1 + t
            · rw [he, if_pos rfl]
              exact p
            · have := cinc k (i + 1 + t) (by omega) hlt
              rw [if_neg (by omega)]
              exact v5 k hk1 (by omega)) (k3, v3.set (cols.getD i 0) (ws.getD i 0)) ⟨by rw [List.length_set]; exact u1, set_num u2 (by omega), fun j hj => by rw [getD_set (by omega), if_neg (by omega)]; exact u3 j (by omega), by rw [getD_set (by omega), if_pos rfl], fun k a b => by omega⟩
      obtain ⟨z1, z2, z3, z4, z5⟩ := zI _ (Nat.le_refl _)
      generalize hz : z (cols.length - (i + 1)) = ze at z1 z2 z3 z4 z5
      obtain ⟨k4, v4⟩ := ze
      simp only at z1 z2 z3 z4 z5
      have hrow : RowF m cols ws i v4 := ⟨z1, z2, z3, z4, fun k a b => z5 k a (by omega)⟩
      refine ⟨(k4, T ++ [v4]), ⟨G .no (.adr 2) (.dat (.int (i : Int))) (.dat (lV v4)) .no, Fg.cons (Fg.cons (Fg.cons (Fg.cons (Fg.cons (Fg.cons (Fg.cons (Fg.cons (Fg.no (Fg.no (Fg.cons Fg.nil)))))))))), ?_⟩, by rw [List.length_append, h1]; rfl, fun a ha => ?_⟩
      · refine SB.cons (E1 := G .no (.adr 2) (.dat (.int (i : Int))) (.adr (i + 3)) .no) (M1 := Ml k1 T i (List.replicate m 0)) (ST.to (ST.set 9 (EV.bin (EV.lst (ds := [.int 0]) (EA.cons EV.int EA.nil) (by show 1 ≤ 100000; decide)) (EV.nm 2) (BS.mulLN (by omega) (by omega) (by show 1 ≤ 100; decide))) c_law_form.nd) ?_) ?_
        · show Out.nx (G .no (.adr 2) (.dat (.int (i : Int))) (.adr ((Me k1 T i).length)) .no) (Me k1 T i ++ [some ((List.replicate ((m : Nat) : Int).toNat [D.int 0]).flatten.map .dat)]) = _
          rw [repI, Int.toNat_natCast]
          show Out.nx (G _ _ _ (.adr ((List.replicate i none).length + 3)) _) _ = _
          rw [List.length_replicate]
          rfl
        have eat : ∀ (a t : Nat), atI0 ((a : Int) + 1) t = .dat (.int ((a + 1 + t : Nat) : Int)) := fun a t => by
          unfold atI0
          rw [Int.natCast_add, Int.natCast_add]
          rfl
        refine SB.cons (E1 := G .no (.adr 2) (.dat (.int (i : Int))) (.adr (i + 3)) .no) (M1 := Ml k3 T i v3) (ST.to (ST.forN 5 (n := ((m : Int) - ((cols.getD i 0 : Int) + 1)).toNat) (E_ := fun _ => G .no (.adr 2) (.dat (.int (i : Int))) (.adr (i + 3)) .no) (M_ := fun t => Ml (u t).1 T i (u t).2) (EI.rng2 (EV.add (EV.ix (EV.nm 4) (EV.nm 8) (lnix _ hi)) EV.int) (EV.nm 2) W.b.range (by omega) (by omega)) Fg.refl (by rw [u0]) (fun _ _ => True.intro) c_law_form.nd (fun t ht => ?_)) (by rw [show ((m : Int) - ((cols.getD i 0 : Int) + 1)).toNat = m - (cols.getD i 0 + 1) by omega, hu])) ?_
        · rw [eat]
          exact ⟨_, Fg.cons (Fg.cons (Fg.cons (Fg.cons (Fg.cons (Fg.no (Fg.cons (Fg.cons (Fg.cons (Fg.cons (Fg.cons Fg.nil)))))))))), uP t (by omega)⟩
        refine SB.cons (E1 := G .no (.adr 2) (.dat (.int (i : Int))) (.adr (i + 3)) .no) (M1 := Ml k3 T i (v3.set (cols.getD i 0) (ws.getD i 0))) (ST.to (ST.asg (M1 := Ml k3 T i v3) (EV.ix (EV.nm 6) (EV.nm 8) (ix_lV (by omega))) (EG.sub (n := i + 3) (jj := cols.getD i 0) (ps := (v3.map D.int).map O.dat) (EV.nm 9) (EV.ix (EV.nm 4) (EV.nm 8) (lnix _ hi)) (lrow _ _ _ _) (by rw [row_len]; exact ixN_of (by omega)))) ?_) ?_
        · show Out.nx _ ((Ml k3 T i v3).set (i + 3) _) = _
          rw [r3_set, row_set]
        refine SB.cons (E1 := G .no (.adr 2) (.dat (.int (i : Int))) (.adr (i + 3)) .no) (M1 := Ml k4 T i v4) (ST.to (ST.forN 10 (n := ((cols.length : Int) - ((i : Int) + 1)).toNat) (E_ := fun _ => G .no (.adr 2) (.dat (.int (i : Int))) (.adr (i + 3)) .no) (M_ := fun t => Ml (z t).1 T i (z t).2) (EI.rng2 (EV.add (EV.nm 8) EV.int) (EV.len (EV.nm 4) lN_len W.b.len) W.b.range (by omega) (by omega)) Fg.refl (by rw [z0]) (fun _ _ => True.intro) c_law_form.nd (fun t ht => ?_)) (by rw [show ((cols.length : Int) - ((i : Int) + 1)).toNat = cols.length - (i + 1) by omega, hz])) ?_
        · rw [eat]
          exact ⟨_, Fg.cons (Fg.cons (Fg.cons (Fg.cons (Fg.cons (Fg.cons (Fg.cons (Fg.cons (Fg.cons (Fg.cons (Fg.no Fg.nil)))))))))), zP t (by omega)⟩
        refine SB.fz (jj := 9) (nn := i + 3) (ds := v4.map D.int) rfl (lrow _ _ _ _) ?_
        rw [r3_set]
        refine SB.one (ST.to (ST.exp (EV.append (n := 2) (ps := (T.map lV).map O.dat) (EV.nm 7) (EV.nm 9) rfl rfl (by rw [List.length_map, List.length_map]; omega))) ?_)
        show Out.nx _ (rowC k4 :: none :: some (_ ++ [O.dat (lV v4)]) :: (List.replicate i none ++ [none])) = Out.nx _ (rowC k4 :: none :: some (((T ++ [v4]).map lV).map O.dat) :: List.replicate (i + 1) none)
        rw [List.replicate_succ', List.map_append, List.map_append]
        rfl
      · by_cases he : a = i
        · subst he
          rw [List.getD_eq_getElem?_getD, List.getElem?_append_right (by omega), h1, Nat.sub_self]
          exact hrow
        · rw [List.getD_eq_getElem?_getD, List.getElem?_append_left (by omega), ← List.getD_eq_getElem?_getD]
          exact h2 a (by omega)) (dl cols.length ns1, []) ⟨rfl, fun a ha => absurd ha (Nat.not_lt_zero a)⟩
  obtain ⟨a1, a2⟩ := hI cols.length (Nat.le_refl _)
  refine ⟨(h cols.length).2, cols, ws, (h cols.length).1, ⟨c1, c2, c3, wl, wn, a1, a2⟩, Nat.le_refl _, True.intro, lowR, none :: none :: List.replicate cols.length none, ?_⟩
  refine SB.cons (E1 := Fr (.adr 1) .no .no .no .no .no .no) (M1 := [rowC ns, colC []]) (ST.set 4 (EV.cel EA.nil (by decide)) c_law_form.nd) (SB.cons (E1 := Fr (.adr 1) .no .no .no .no .no .no) (M1 := [rowC ns1, colC cols]) (ST.to (ST.forN 5 (n := ((m : Nat) : Int).toNat) (E_ := fun _ => Fr (.adr 1) .no .no .no .no .no .no) (M_ := fun i => [rowC (f i).1, colC (f i).2]) (EI.rng1 (EV.nm 2) W.b.range (by omega)) Fg.refl (by rw [f0]) (fun _ _ => True.intro) c_law_form.nd (fun i hi => ⟨_, ?_, by rw [atI0_eq]; exact fP i (by omega)⟩)) (by rw [Int.toNat_natCast, hcols, hns1])) ?_)
  · exact Fg.cons (Fg.cons (Fg.cons (Fg.cons (Fg.cons (Fg.no (Fg.cons (Fg.cons (Fg.cons (Fg.cons (Fg.cons Fg.nil))))))))))
  refine SB.fz (jj := 4) (nn := 1) (ds := cols.map fun (k : Nat) => D.int (k : Int)) rfl rfl ?_
  have hcl : (cols.map fun (k : Nat) => D.int (k : Int)).length = cols.length := List.length_map _
  refine SB.cons (E1 := G .no .no .no .no .no) (M1 := [rowC (dl cols.length ns1), none]) (ST.to (LC.set 6 (LC.lS (own := [("j", 5)]) (M1 := [rowC ns1, none]) (v := fun i => .int (pick LW7 (tk (dl i ns1) 7))) (M_ := fun i => [rowC (dl i ns1), none]) (by rfl) c_law_form.nd (EI.lst (EV.nm 4)) rfl (fun _ _ => rfl) (fun _ _ _ => True.intro) (by omega) (Nat.le_refl _) (OkM.dat (OkM.same OkM.nil)) (fun i hi => ⟨_, fun M => EGv.nm 5 c_law_form.nd (by simp), fun c => EV.ix (EV.lst (ds := LW7.map D.int) (EA.cons EV.int (EA.cons EV.int (EA.cons EV.int (EA.cons EV.int (EA.cons EV.int (EA.cons EV.int (EA.cons EV.int EA.nil))))))) (by decide)) (ev_tk (ns := dl i ns1) TK (EV.nm 0) EV.int rfl (by decide)) (pick_at (tk_pos (by decide)))⟩)) rfl rfl (fun env he => sw_true (by rw [he]; rfl) (by rw [he]; rfl) (by rfl) (by rfl))) ?_) ?_
  · rw [hcl, wsd]
    rfl
  refine SB.cons (E1 := G .no (.adr 2) .no .no .no) (M1 := Me (dl cols.length ns1) [] 0) (ST.set 7 (EV.cel EA.nil (by decide)) c_law_form.nd) (SB.cons (E1 := G .no (.adr 2) .no .no .no) (M1 := Me (h cols.length).1 (h cols.length).2 cols.length) (ST.to (ST.forN 8 (n := ((cols.length : Nat) : Int).toNat) (E_ := fun _ => G .no (.adr 2) .no .no .no) (M_ := fun i => Me (h i).1 (h i).2 i) (EI.rng1 (EV.len (EV.nm 4) lN_len W.b.len) W.b.range (by omega)) Fg.refl (by rw [h0]) (fun _ _ => True.intro) c_law_form.nd (fun i hi => by rw [atI0_eq]; exact hP i (by omega))) (by rw [Int.toNat_natCast])) ?_)
  refine SB.fz (jj := 7) (nn := 2) (ds := (h cols.length).2.map lV) rfl rfl ?_
  exact SB.one (ST.ret (EV.tup (ds := [lM (h cols.length).2, lN cols, lV ws]) (EA.cons (EV.nm 7) (EA.cons (EV.nm 4) (EA.cons (EV.nm 6) EA.nil))) (by show 3 ≤ 100000; decide)))
theorem fn_form (W : Wd g) : FN g "_law_form" 2 (fun os M o M' => os.length = 4 ∧ Run g n_law_form s_law_form 1 os M o M') := FN.run (ps := ["row", "n", "m", "full"]) W.t_law_form c_law_form (fun _ _ _ _ _ _ us hl => match us, hl with | [_, _, _, _], _ => rfl)
/-- what is drawn is in the form -/
theorem Fm.hf {n m : Nat} {T : List (List Int)} {cols : List Nat} {ws : List Int} (F : Fm n m T cols ws) : HF (T ++ List.replicate (n - T.length) (List.replicate m 0)) m cols.length (fun i => cols.getD i 0) := by
  have at1 : ∀ i, i < T.length → ∀ j, gE (T ++ List.replicate (n - T.length) (List.replicate m 0)) i j = (T.getD i []).getD j 0 := fun i hi j => by
    unfold gE
    rw [List.getD_eq_getElem?_getD (l := T ++ _), List.getElem?_append_left hi, List.getD_eq_getElem?_getD (l := T)]
  have htl := F.tl
  have hln := F.len
  refine ⟨by rw [List.length_append, List.length_replicate]; omega, fun q hq => ?_, fun i hi => F.lt _ (mem_getD hi), fun i j hij hj => ?_, fun i hi j hj => ?_, fun i hi => ?_, fun k i hki hi => ?_, fun i hi j => ?_⟩
  · rcases List.mem_append.mp hq with h | h
    · obtain ⟨i, hi, e⟩ := List.getElem_of_mem h
      have := (F.row i (by omega)).len
      rw [List.getD_eq_getElem?_getD, List.getElem?_eq_getElem hi, e] at this
      exact this
    · rw [List.eq_of_mem_replicate h, List.length_replicate]
  · have := List.pairwise_iff_getElem.mp F.inc i j (by omega) hj hij
    rw [List.getD_eq_getElem?_getD, List.getD_eq_getElem?_getD, List.getElem?_eq_getElem hj, List.getElem?_eq_getElem (by omega : i < cols.length)]
    exact this
  · rw [at1 i (by omega)]
    exact (F.row i hi).left j hj
  · rw [at1 i (by omega), (F.row i hi).pv]
    have := F.wn _ (mem_getD (a0 := 0) (by rw [F.wl]; exact hi : i < ws.length))
    omega
  · rw [at1 k (by omega), at1 i (by omega), (F.row i hi).pv]
    exact (F.row k (by omega)).abv i hki hi
  · unfold gE
    rw [List.getD_eq_getElem?_getD (l := T ++ _), List.getElem?_append_right (by omega), List.getElem?_replicate]
    split
    · exact rep_zero
    · rfl
theorem Fm.num {n m : Nat} {T : List (List Int)} {cols : List Nat} {ws : List Int} (F : Fm n m T cols ws) : ∀ q ∈ T ++ List.replicate (n - T.length) (List.replicate m 0), ∀ x ∈ q, x.natAbs ≤ 12 := fun q hq x hx => by
  have htl := F.tl
  rcases List.mem_append.mp hq with h | h
  · obtain ⟨i, hi, e⟩ := List.getElem_of_mem h
    have := (F.row i (by omega)).num
    rw [List.getD_eq_getElem?_getD, List.getElem?_eq_getElem hi, e] at this
    exact this x hx
  · rw [List.eq_of_mem_replicate h] at hx
    rw [List.eq_of_mem_replicate hx]
    decide
end
end
section
/-! ### tables of a size -/
section
variable {g : Pg}
def lineB (n : Nat) : D → Bool
  | .tup ds => decide ((ds.length : Int) = (n : Int)) && ds.all D.isNum
  | _ => false
def tabB (n w : Nat) : D → Bool
  | .tup ds => decide ((ds.length : Int) = (n : Int)) && ds.all (lineB w)
  | _ => false
def Tb (m : List (List Int)) (n w : Nat) : Prop := m.length = n ∧ ∀ q ∈ m, q.length = w
theorem tup_or (d : D) : (∃ ds, d = .tup ds) ∨ d.isTup = false := by
  cases d <;> first | exact .inl ⟨_, rfl⟩ | exact .inr rfl
theorem line_tV {w : Nat} {d : D} (h : lineB w d = true) : ∃ v : List Int, d = tV v ∧ v.length = w := by
  rcases tup_or d with ⟨ds, rfl⟩ | hd
  · have h' : (decide ((ds.length : Int) = (w : Int)) && ds.all D.isNum) = true := h
    rw [Bool.and_eq_true, decide_eq_true_eq] at h'
    exact ⟨ds.map D.toI, congrArg D.tup (nums_of h'.2), by rw [List.length_map]; omega⟩
  · cases d <;> first | exact absurd h Bool.false_ne_true | cases hd
theorem tV_line {v : List Int} : lineB v.length (tV v) = true := by
  show (decide (((v.map D.int).length : Int) = (v.length : Int)) && (v.map D.int).all D.isNum) = true
  rw [List.length_map, decide_eq_true rfl, List.all_map, Bool.true_and, List.all_eq_true]
  exact fun _ _ => rfl
theorem lines_tV {w : Nat} : ∀ {ds : List D}, ds.all (lineB w) = true → ∃ m : List (List Int), ds = m.map tV ∧ ∀ q ∈ m, q.length = w
  | [], _ => ⟨[], rfl, fun q hq => by cases hq⟩
  | d :: ds, h => by
    rw [List.all_cons, Bool.and_eq_true] at h
    obtain ⟨v, rfl, hv⟩ := line_tV h.1
    obtain ⟨m, rfl, hm⟩ := lines_tV h.2
    refine ⟨v :: m, rfl, fun q hq => ?_⟩
    rcases List.mem_cons.mp hq with rfl | hq
    · exact hv
    · exact hm q hq
theorem tab_tM {n w : Nat} {d : D} (h : tabB n w d = true) : ∃ m, d = tM m ∧ Tb m n w := by
  rcases tup_or d with ⟨ds, rfl⟩ | hd
  · have h' : (decide ((ds.length : Int) = (n : Int)) && ds.all (lineB w)) = true := h
    rw [Bool.and_eq_true, decide_eq_true_eq] at h'
    obtain ⟨m, rfl, hm⟩ := lines_tV h'.2
    exact ⟨m, rfl, by rw [List.length_map] at h'; omega, hm⟩
  · cases d <;> first | exact absurd h Bool.false_ne_true | cases hd
theorem tM_tab {n w : Nat} {m : List (List Int)} (h : Tb m n w) : tabB n w (tM m) = true := by
  show (decide (((m.map tV).length : Int) = (n : Int)) && (m.map tV).all (lineB w)) = true
  rw [List.length_map, h.1, decide_eq_true rfl, List.all_map, Bool.true_and, List.all_eq_true]
  intro q hq
  show lineB w (tV q) = true
  rw [← h.2 q hq]
  exact tV_line
theorem ok_is_line (W : Wd g) : FN g "is_line" 2 (P2 fun d e r => ∃ n : Nat, n < 100000 ∧ e = .int (n : Int) ∧ r = .bl (lineB n d)) := by
  refine FN.mk2 W.t_is_line c_is_line (fun _ _ _ _ _ _ us hl => match us, hl with | [_, _], _ => rfl) (fun d e r h => ?_)
  obtain ⟨n, hn, rfl, rfl⟩ := h
  rcases tup_or d with ⟨ds, rfl⟩ | hd
  · refine SB.one (ST.ret ?_)
    show EV _ _ _ _ (.dat (.bl (true && (decide ((ds.length : Int) = (n : Int)) && ds.all D.isNum)))) _
    refine EV.and (k1 := true) (EV.to (EV.isTuple (EV.nm 0) W.b.isinstance W.b.tuple) rfl) (fun _ => EV.and (EV.cm (EV.len (EV.nm 0) rfl W.b.len) (EV.nm 1) CS.eqI) (fun h => EV.and1 (EV.to (EV.all (bs := ds.map D.isNum) ?_ W.b.all) (by rw [all_map]))) (fun _ => rfl)) (fun z => nomatch z)
    have hl := of_decide_eq_true h
    rw [List.map_map]
    exact LC.ev (LC.lM 2 (xs := ds) (f := fun e => e) (own := [("one", 2)]) (by rfl) c_is_line.nd rfl (EV.nm 0) (by rw [List.map_id']; rfl) (Nat.le_refl _) OkM.refl (by omega) (fun e he M => EV.c1 (ok_is_number W) (EV.nm 2) (by exact rfl)))
  · exact SB.one (ST.ret (EV.to (EV.and (k1 := false) (k2 := true) (EV.to (EV.isTuple (EV.nm 0) W.b.isinstance W.b.tuple) (by rw [hd])) (fun z => nomatch z) (fun _ => rfl)) (by cases d <;> first | rfl | cases hd)))
theorem ok_is_table (W : Wd g) : FN g "is_table" 3 (P3 fun d e f r => ∃ n w : Nat, n < 100000 ∧ w < 100000 ∧ e = .int (n : Int) ∧ f = .int (w : Int) ∧ r = .bl (tabB n w d)) := by
  refine FN.mk3 W.t_is_table c_is_table (fun _ _ _ _ _ _ us hl => match us, hl with | [_, _, _], _ => rfl) (fun d e f r h => ?_)
  obtain ⟨n, w, hn, hw, rfl, rfl, rfl⟩ := h
  rcases tup_or d with ⟨ds, rfl⟩ | hd
  · refine SB.one (ST.ret ?_)
    show EV _ _ _ _ (.dat (.bl (true && (decide ((ds.length : Int) = (n : Int)) && ds.all (lineB w))))) _
    refine EV.and (k1 := true) (EV.to (EV.isTuple (EV.nm 0) W.b.isinstance W.b.tuple) rfl) (fun _ => EV.and (EV.cm (EV.len (EV.nm 0) rfl W.b.len) (EV.nm 1) CS.eqI) (fun h => EV.and1 (EV.to (EV.all (bs := ds.map (lineB w)) ?_ W.b.all) (by rw [all_map]))) (fun _ => rfl)) (fun z => nomatch z)
    have hl := of_decide_eq_true h
    rw [List.map_map]
    exact LC.ev (LC.lM 3 (xs := ds) (f := fun e => e) (own := [("row", 3)]) (by rfl) c_is_table.nd rfl (EV.nm 0) (by rw [List.map_id']; rfl) (Nat.le_refl _) OkM.refl (by omega) (fun e he M => EV.c2 (ok_is_line W) (EV.nm 3) (EV.nm 2) ⟨w, hw, rfl, rfl⟩))
  · exact SB.one (ST.ret (EV.to (EV.and (k1 := false) (k2 := true) (EV.to (EV.isTuple (EV.nm 0) W.b.isinstance W.b.tuple) (by rw [hd])) (fun z => nomatch z) (fun _ => rfl)) (by cases d <;> first | rfl | cases hd)))
/-! ### papers -/
def HP (a : List (List Int)) (r : D) : Prop := ∃ mm, Mx a ∧ hwOk a (wd a) mm ∧ Cst a (wd a) (hw a mm (wd a)) ∧ r = .tup [tM (hw a mm (wd a)).1.r, tM (hw a mm (wd a)).1.t, tM (flip (hw a mm (wd a)).1.b)]
theorem hp_ex {a : List (List Int)} (h : Mx a) : ∃ r, HP a r := by
  obtain ⟨mm, h1, h2⟩ := hermite_ex h
  exact ⟨_, mm, h, h1, h2, rfl⟩
theorem ok_hermite_paper (W : Wd g) : FN g "hermite_paper" 35 (P1 fun d r => ∃ a, IsM d a ∧ HP a r) := by
  refine FN.mk1x W.t_hermite_paper c_hermite_paper (fun _ _ _ _ _ _ us hl => match us, hl with | [_], _ => rfl) (fun d r h => ?_)
  obtain ⟨a, ha, mm, hm, h1, h2, rfl⟩ := h
  exact ⟨[], SB.one (ST.ret (EV.c1 (ok_hermite_ways W) (EV.c1 (ok_checked_matrix W) (EV.nm 0) ⟨a, ha, rfl⟩) ⟨a, mm, hm, h1, rfl, rfl⟩))⟩
/-- a bound of numbers' bits -/
@[irreducible] def bigE : Nat := 60000000
theorem bigE_le : bigE + bigE + 2 ≤ 134217728 := by unfold bigE; decide
theorem bigE_nb : ∀ w, w ≤ 8 → (nb w).2.2 ≤ bigE ∧ (nb w).2.1 ≤ bigE := by unfold bigE; decide
theorem bigE_k : 200 ≤ bigE := by unfold bigE; decide
def Big (m : List (List Int)) : Prop := ∀ q ∈ m, ∀ x ∈ q, x.natAbs ≤ 2 ^ bigE
theorem Big.mul {a b : List (List Int)} (ha : Big a) (hb : Big b) : MulOk a b := fun r hr x hx q hq y hy => mulOk_bits (ha r hr x hx) (hb q hq y hy) bigE_le
theorem Bd.big {m : List (List Int)} (h : Bd m) : Big m := fun q hq x hx => Nat.le_trans (h q hq x hx) (Nat.pow_le_pow_right (by decide) bigE_k)
theorem takes_all {ds : List D} : (wrongD (.tup ds)).isN = ds.all goodB := by
  show (optN (ds.findIdx? fun c => !goodB c)).isN = _
  cases hf : ds.findIdx? fun c => !goodB c with
  | none =>
    have := List.findIdx?_eq_none_iff.mp hf
    rw [show ds.all goodB = true from List.all_eq_true.mpr fun c hc => by simpa using this c hc]
    rfl
  | some p =>
    obtain ⟨hp, h1, _⟩ := List.findIdx?_eq_some_iff_getElem.mp hf
    have : ds.all goodB = false := by
      rw [← Bool.not_eq_true]
      intro z
      rw [List.all_eq_true.mp z _ (List.getElem_mem hp)] at h1
      cases h1
    rw [this]
    rfl
theorem Tb.w64 {m : List (List Int)} {n w : Nat} (h : Tb m n w) (hn : 1 ≤ n ∧ n ≤ 8) (hw : 1 ≤ w ∧ w ≤ 8) : W64 m ∧ wd m = w := by
  have e : wd m = w := by
    cases m with
    | nil => have := h.1; simp at this; omega
    | cons q l => exact h.2 q List.mem_cons_self
  exact ⟨⟨by rw [h.1]; omega, by rw [e]; omega, fun r hr => by rw [e]; exact h.2 r hr⟩, e⟩
theorem unit_tb {n : Nat} : Tb (unitM n) n n := ⟨unit_len, fun q hq => by
  unfold unitM at hq
  obtain ⟨i, _, rfl⟩ := List.mem_map.mp hq
  rw [List.length_map, List.length_range]⟩
end
end
section
section
variable {g : Pg}
abbrev prD (a b c : List (List Int)) : D := .tup [.str "product", tM a, tM b, tM c]
def waysR4 : Rel := fun os M o M' => ∃ a h u v : List (List Int), a.length < 100000 ∧ os = [.dat (tM a), .dat (tM h), .dat (tM u), .dat (tM v)] ∧ M = [] ∧ M' = [] ∧ o = .dat (.tup [prD u a h, prD v h a, prD u v (unitM a.length)])
theorem ok_ways_claims (W : Wd g) : FN g "ways_claims" 2 waysR4 := by
  refine FN.mk W.t_ways_claims c_ways_claims (fun _ _ _ _ _ _ us hl => match us, hl with | [_, _, _, _], _ => rfl) (fun os M o M' h => by obtain ⟨a, h', u, v, _, rfl, _⟩ := h; rfl) (fun os M o M' h => ?_)
  obtain ⟨a, h, u, v, ha, rfl, rfl, rfl, rfl⟩ := h
  have two : ∀ n : Nat, n ≤ 4 → n ≤ 100000 := fun n hn => by omega
  exact SB.one (ST.ret (EV.tup (ds := [prD u a h, prD v h a, prD u v (unitM a.length)]) (EA.cons (EV.tup (ds := [.str "product", tM u, tM a, tM h]) (EA.cons EV.str (EA.cons (EV.nm 2) (EA.cons (EV.nm 0) (EA.cons (EV.nm 1) EA.nil)))) (two _ (Nat.le_of_ble_eq_true rfl))) (EA.cons (EV.tup (ds := [.str "product", tM v, tM h, tM a]) (EA.cons EV.str (EA.cons (EV.nm 3) (EA.cons (EV.nm 1) (EA.cons (EV.nm 0) EA.nil)))) (two _ (Nat.le_of_ble_eq_true rfl))) (EA.cons (EV.tup (ds := [.str "product", tM u, tM v, tM (unitM a.length)]) (EA.cons EV.str (EA.cons (EV.nm 2) (EA.cons (EV.nm 3) (EA.cons (EV.c1 (ok_unit W) (EV.len (EV.nm 0) len_tM W.b.len) ⟨a.length, ha, rfl, rfl⟩) EA.nil)))) (two _ (Nat.le_of_ble_eq_true rfl))) EA.nil))) (two _ (Nat.le_of_ble_eq_true rfl))))
theorem mild_prod {a b c : List (List Int)} (h : MulOk a b) : Mild (prD a b c) := ⟨fun ds e => by cases e; exact Nat.lt_of_lt_of_le (Nat.lt_succ_self 4) (by decide), fun _ a' b' c' e => by
  have e1 := D.tup.inj e
  injection e1 with _ e2
  injection e2 with e3 e4
  injection e4 with e5 _
  rw [← tM_inj e3, ← tM_inj e5]
  exact h⟩
theorem good_prod {a b c : List (List Int)} (ha : W64 a) (hb : W64 b) (hc : W64 c) (hw : wd a = b.length) : goodB (prD a b c) = decide (mulM a b = c) := by
  rw [good_of (CL.product ha hb hc)]
  unfold prodB
  rw [decide_eq_true (by rw [hw]), Bool.true_and]
def Shape (A : List (List Int)) (d : D) (H U V : List (List Int)) : Prop := d = .tup [tM H, tM U, tM V] ∧ Tb H A.length (wd A) ∧ Tb U A.length A.length ∧ Tb V A.length A.length
def Eqs (A H U V : List (List Int)) : Prop := mulM U A = H ∧ mulM V H = A ∧ mulM U V = unitM A.length
def Lit (A : List (List Int)) (d : D) : Prop := ∀ H U V, Shape A d H U V → Big H ∧ Big U ∧ Big V
theorem shape_inj {A : List (List Int)} {d : D} {H U V H' U' V' : List (List Int)} (h : Shape A d H U V) (h' : Shape A d H' U' V') : H = H' ∧ U = U' ∧ V = V' := by
  have e := D.tup.inj (h.1.symm.trans h'.1)
  injection e with e1 e2
  injection e2 with e3 e4
  injection e4 with e5 _
  exact ⟨tM_inj e1, tM_inj e3, tM_inj e5⟩
open Classical in
noncomputable def holdsB (A : List (List Int)) (d : D) : Bool := decide (∃ H U V, Shape A d H U V ∧ inB H = true ∧ Eqs A H U V)
open Classical in
theorem holds_no {A : List (List Int)} {d : D} (h : ∀ H U V, ¬ Shape A d H U V) : holdsB A d = false := decide_eq_false fun ⟨H, U, V, h1, _⟩ => h H U V h1
open Classical in
theorem holds_yes {A : List (List Int)} {d : D} {H U V : List (List Int)} (h : Shape A d H U V) : holdsB A d = decide (inB H = true ∧ Eqs A H U V) := by
  unfold holdsB
  refine decide_eq_decide.mpr ⟨fun ⟨H', U', V', h1, h2⟩ => ?_, fun h2 => ⟨H, U, V, h, h2⟩⟩
  obtain ⟨rfl, rfl, rfl⟩ := shape_inj h h1
  exact h2
theorem three_or (ds : List D) : (∃ x y z, ds = [x, y, z]) ∨ ds.length ≠ 3 := by
  match ds with
  | [x, y, z] => exact .inl ⟨x, y, z, rfl⟩
  | [] => exact .inr (by simp)
  | [_] => exact .inr (by simp)
  | [_, _] => exact .inr (by simp)
  | _ :: _ :: _ :: _ :: l => exact .inr (by simp)
theorem ok_hermite_holds (W : Wd g) : FN g "hermite_holds" 7 (P2 fun d e r => ∃ A, IsM d A ∧ Big A ∧ Lit A e ∧ r = .bl (holdsB A e)) := by
  refine FN.mk2 W.t_hermite_holds c_hermite_holds (fun _ _ _ _ _ _ us hl => match us, hl with | [_, _], _ => rfl) (fun d e r h => ?_)
  obtain ⟨A, hA, hBA, hL, rfl⟩ := h
  have hm := hA.1
  have l1 := hm.l1
  have l8 := hm.l8
  have w1 := hm.w1
  have w8 := hm.w8
  let E : O → O → List O := fun o r => [.dat d, .dat e, o, r]
  let C := mkC g n_hermite_holds s_hermite_holds 6
  let hb : List Stmt := defBody s_hermite_holds
  have start : ∀ {r : Out}, SB C (hb.drop 2) (E (.dat (tM A)) (.dat (.int (A.length : Int)))) [] r → SB C hb (pad n_hermite_holds [.dat d, .dat e]) [] r := fun {r} h => SB.cons (E1 := E (.dat (tM A)) .no) (M1 := []) (ST.set 2 (EV.c1 (ok_checked_matrix W) (EV.nm 0) ⟨A, hA, rfl⟩) c_hermite_holds.nd) (SB.cons (E1 := E (.dat (tM A)) (.dat (.int (A.length : Int)))) (M1 := []) (ST.set 3 (EV.len (EV.nm 2) len_tM W.b.len) c_hermite_holds.nd) h)
  have hA0 := ix_tM0 hm.ne
  rcases tup_or e with ⟨ds, rfl⟩ | he
  · rcases three_or ds with ⟨x, y, z, rfl⟩ | h3
    · have x0 : ixD (.tup [x, y, z]) ((0 : Nat) : Int) = some x := atI_nat rfl
      have x1 : ixD (.tup [x, y, z]) ((1 : Nat) : Int) = some y := atI_nat rfl
      have x2 : ixD (.tup [x, y, z]) ((2 : Nat) : Int) = some z := atI_nat rfl
      cases hx : tabB A.length (wd A) x with
      | false =>
        rw [holds_no fun H U V hs => by
          have := D.tup.inj hs.1
          injection this with e1 _
          rw [e1, tM_tab hs.2.1] at hx
          cases hx]
        exact start (SB.stop (ST.yes (ET.to (EW.et (EW.or (k1 := false) (k2 := true) (ET.to (ET.not (ET.val (EV.isTuple (EV.nm 1) W.b.isinstance W.b.tuple))) rfl) (fun _ => EW.or (k1 := false) (k2 := true) (ET.to (ET.cm (EV.len (EV.nm 1) rfl W.b.len) EV.int CS.neI) rfl) (fun _ => EW.or1 (ET.to (ET.not (ET.val (EV.c3 (ok_is_table W) (EV.ix (EV.nm 1) EV.int x0) (EV.nm 3) (EV.len (EV.ix (EV.nm 2) EV.int hA0) len_tV W.b.len) ⟨A.length, wd A, by omega, by omega, rfl, rfl, rfl⟩))) (by rw [hx]; rfl))) (fun z => nomatch z)) (fun z => nomatch z))) rfl) (SB.one (ST.ret EV.bl))))
      | true =>
        obtain ⟨H, rfl, hH⟩ := tab_tM hx
        refine start (SB.cons (E1 := E (.dat (tM A)) (.dat (.int (A.length : Int)))) (M1 := []) (ST.no (ET.to (EW.et (EW.or (k1 := false) (k2 := false) (ET.to (ET.not (ET.val (EV.isTuple (EV.nm 1) W.b.isinstance W.b.tuple))) rfl) (fun _ => EW.or (k1 := false) (k2 := false) (ET.to (ET.cm (EV.len (EV.nm 1) rfl W.b.len) EV.int CS.neI) rfl) (fun _ => EW.or1 (ET.to (ET.not (ET.val (EV.c3 (ok_is_table W) (EV.ix (EV.nm 1) EV.int x0) (EV.nm 3) (EV.len (EV.ix (EV.nm 2) EV.int hA0) len_tV W.b.len) ⟨A.length, wd A, by omega, by omega, rfl, rfl, rfl⟩))) (by rw [hx]; rfl))) (fun z => nomatch z)) (fun z => nomatch z))) rfl) SB.nil) ?_)
        cases hy : tabB A.length A.length y with
        | false =>
          rw [holds_no fun H' U V hs => by
            have := D.tup.inj hs.1
            injection this with _ e1
            injection e1 with e2 _
            rw [e2, tM_tab hs.2.2.1] at hy
            cases hy]
          exact SB.stop (ST.yes (ET.to (EW.et (EW.or (k1 := true) (k2 := true) (ET.to (ET.not (ET.val (EV.c3 (ok_is_table W) (EV.ix (EV.nm 1) EV.int x1) (EV.nm 3) (EV.nm 3) ⟨A.length, A.length, by omega, by omega, rfl, rfl, rfl⟩))) (by rw [hy]; rfl)) (fun z => nomatch z) (fun _ => rfl))) rfl) (SB.one (ST.ret EV.bl)))
        | true =>
          obtain ⟨U, rfl, hU⟩ := tab_tM hy
          cases hz : tabB A.length A.length z with
          | false =>
            rw [holds_no fun H' U' V hs => by
              have := D.tup.inj hs.1
              injection this with _ e1
              injection e1 with _ e2
              injection e2 with e3 _
              rw [e3, tM_tab hs.2.2.2] at hz
              cases hz]
            exact SB.stop (ST.yes (ET.to (EW.et (EW.or (k1 := false) (k2 := true) (ET.to (ET.not (ET.val (EV.c3 (ok_is_table W) (EV.ix (EV.nm 1) EV.int x1) (EV.nm 3) (EV.nm 3) ⟨A.length, A.length, by omega, by omega, rfl, rfl, rfl⟩))) (by rw [hy]; rfl)) (fun _ => EW.or1 (ET.to (ET.not (ET.val (EV.c3 (ok_is_table W) (EV.ix (EV.nm 1) EV.int x2) (EV.nm 3) (EV.nm 3) ⟨A.length, A.length, by omega, by omega, rfl, rfl, rfl⟩))) (by rw [hz]; rfl))) (fun z => nomatch z))) rfl) (SB.one (ST.ret EV.bl)))
          | true =>
            obtain ⟨V, rfl, hV⟩ := tab_tM hz
            have hs : Shape A (.tup [tM H, tM U, tM V]) H U V := ⟨rfl, hH, hU, hV⟩
            obtain ⟨bH, bU, bV⟩ := hL H U V hs
            have tA : Tb A A.length (wd A) := ⟨rfl, hm.rect⟩
            obtain ⟨wH, eH⟩ := hH.w64 ⟨l1, l8⟩ ⟨w1, w8⟩
            obtain ⟨wU, eU⟩ := hU.w64 ⟨l1, l8⟩ ⟨l1, l8⟩
            obtain ⟨wV, eV⟩ := hV.w64 ⟨l1, l8⟩ ⟨l1, l8⟩
            obtain ⟨wA, _⟩ := tA.w64 ⟨l1, l8⟩ ⟨w1, w8⟩
            obtain ⟨wI, _⟩ := (unit_tb (n := A.length)).w64 ⟨l1, l8⟩ ⟨l1, l8⟩
            have hHl := hH.1
            have hVl := hV.1
            have res : holdsB A (.tup [tM H, tM U, tM V]) = (inB H && (wrongD (.tup [prD U A H, prD V H A, prD U V (unitM A.length)])).isN) := by
              rw [holds_yes hs, takes_all, List.all_cons, List.all_cons, List.all_cons, List.all_nil, good_prod wU wA wH eU, good_prod wV wH wA (by rw [eV, hHl]), good_prod wU wV wI (by rw [eU, hVl]), Bool.and_true, Bool.eq_iff_iff]
              simp only [decide_eq_true_eq, Bool.and_eq_true]
              exact Iff.rfl
            rw [res]
            refine SB.cons (E1 := E (.dat (tM A)) (.dat (.int (A.length : Int)))) (M1 := []) (ST.no (ET.to (EW.et (EW.or (k1 := false) (k2 := false) (ET.to (ET.not (ET.val (EV.c3 (ok_is_table W) (EV.ix (EV.nm 1) EV.int x1) (EV.nm 3) (EV.nm 3) ⟨A.length, A.length, by omega, by omega, rfl, rfl, rfl⟩))) (by rw [hy]; rfl)) (fun _ => EW.or1 (ET.to (ET.not (ET.val (EV.c3 (ok_is_table W) (EV.ix (EV.nm 1) EV.int x2) (EV.nm 3) (EV.nm 3) ⟨A.length, A.length, by omega, by omega, rfl, rfl, rfl⟩))) (by rw [hz]; rfl))) (fun z => nomatch z))) rfl) SB.nil) ?_
            refine SB.one (ST.ret (EV.and (EV.c1 (ok_in_form W) (EV.ix (EV.nm 1) EV.int x0) ⟨H, rfl, by omega, by rw [eH]; exact hH.2, rfl⟩) (fun _ => EV.and1 (EV.c1 (ok_takes W) (EV.call (ds := [tM A, tM H, tM U, tM V]) (d := .tup [prD U A H, prD V H A, prD U V (unitM A.length)]) (ok_ways_claims W) (EA.cons (EV.nm 2) (EA.cons (EV.ix (EV.nm 1) EV.int x0) (EA.cons (EV.ix (EV.nm 1) EV.int x1) (EA.cons (EV.ix (EV.nm 1) EV.int x2) EA.nil)))) ⟨A, H, U, V, by omega, rfl, rfl, rfl, rfl⟩) ⟨fun ds e => ?_, rfl⟩)) (fun _ => rfl)))
            obtain rfl := (D.tup.inj e).symm
            refine ⟨Nat.lt_of_lt_of_le (Nat.lt_succ_self 3) (by decide), fun c hc => ?_⟩
            simp only [List.mem_cons, List.not_mem_nil, or_false] at hc
            rcases hc with rfl | rfl | rfl
            · exact mild_prod (bU.mul hBA)
            · exact mild_prod (bV.mul bH)
            · exact mild_prod (bU.mul bV)
    · rw [holds_no fun H U V hs => by
        have := D.tup.inj hs.1
        rw [this] at h3
        exact h3 rfl]
      exact start (SB.stop (ST.yes (ET.to (EW.et (EW.or (k1 := false) (k2 := true) (ET.to (ET.not (ET.val (EV.isTuple (EV.nm 1) W.b.isinstance W.b.tuple))) rfl) (fun _ => EW.or (k1 := true) (k2 := true) (ET.to (ET.cm (EV.len (EV.nm 1) rfl W.b.len) EV.int CS.neI) (by rw [decide_eq_false (by omega)]; rfl)) (fun z => nomatch z) (fun _ => rfl)) (fun z => nomatch z))) rfl) (SB.one (ST.ret EV.bl))))
  · rw [holds_no fun H U V hs => by
      rw [hs.1] at he
      cases he]
    exact start (SB.stop (ST.yes (ET.to (EW.et (EW.or (k1 := true) (k2 := true) (ET.to (ET.not (ET.val (EV.isTuple (EV.nm 1) W.b.isinstance W.b.tuple))) (by rw [he]; rfl)) (fun z => nomatch z) (fun _ => rfl))) rfl) (SB.one (ST.ret EV.bl))))
end
end
section
section
variable {g : Pg}
theorem atO_at {ds : List D} {i : Nat} : atO ds i = .dat (ds.getD i .non) := rfl
theorem num_no {y : D} (h : y.isNum = false) : (∃ b, y = .bl b) ∨ y.isInt = false := by
  cases y <;> first | exact .inl ⟨_, rfl⟩ | exact .inr rfl | cases h
theorem all_rng {ds : List D} {f : D → Bool} : (List.range ds.length).all (fun i => f (ds.getD i .non)) = ds.all f := by
  rw [Bool.eq_iff_iff, List.all_eq_true, List.all_eq_true]
  refine ⟨fun h d hd => ?_, fun h i hi => h _ (mem_getD (List.mem_range.mp hi))⟩
  obtain ⟨i, hi, rfl⟩ := List.getElem_of_mem hd
  have := h i (List.mem_range.mpr hi)
  rwa [List.getD_eq_getElem?_getD, List.getElem?_eq_getElem hi] at this
theorem ok_law_sized (W : Wd g) : FN g "_law_sized" 1 (P3 fun d e f r => ∃ n w : Nat, e = .int (n : Int) ∧ f = .int (w : Int) ∧ r = .bl (tabB n w d)) := by
  refine FN.mk3 W.t_law_sized c_law_sized (fun _ _ _ _ _ _ us hl => match us, hl with | [_, _, _], _ => rfl) (fun d e f r h => ?_)
  obtain ⟨n, w, rfl, rfl, rfl⟩ := h
  let E : O → O → List O := fun l x => [.dat d, .dat (.int (n : Int)), .dat (.int (w : Int)), l, x]
  let C := mkC g n_law_sized s_law_sized 0
  rcases tup_or d with ⟨ds, rfl⟩ | hd
  · by_cases hl : (ds.length : Int) = (n : Int)
    · have e1 : tabB n w (.tup ds) = (List.range ds.length).all fun i => lineB w (ds.getD i .non) := by
        show (decide ((ds.length : Int) = (n : Int)) && ds.all (lineB w)) = _
        rw [decide_eq_true hl, Bool.true_and, all_rng]
      rw [e1]
      refine SB.cons (E1 := E .no .no) (M1 := []) (ST.no (ET.to (EW.et (EW.or (k1 := false) (k2 := false) (ET.to (ET.not (ET.val (EV.isTuple (EV.nm 0) W.b.isinstance W.b.tuple))) rfl) (fun _ => EW.or1 (ET.to (ET.cm (EV.len (EV.nm 0) rfl W.b.len) (EV.nm 1) CS.neI) (by rw [decide_eq_true hl]; rfl))) (fun z => nomatch z))) rfl) SB.nil) ?_
      refine SB.forB (n := ds.length) (good := fun i => lineB w (ds.getD i .non)) (out := .dat (.bl false)) (E0 := E .no .no) (M0 := []) (EI.tup (EV.nm 0)) Fg.refl True.intro (fun i hi => ?_) (fun h => SB.one (ST.ret (EV.to EV.bl (by rw [h])))) (fun h => by rw [h])
      rw [atO_at]
      generalize ds.getD i .non = q
      refine ⟨E (.dat q) .no, EG.nm 3 c_law_sized.nd, ?_⟩
      rcases tup_or q with ⟨xs, rfl⟩ | hq
      · by_cases hx : (xs.length : Int) = (w : Int)
        · have e2 : lineB w (.tup xs) = (List.range xs.length).all fun i => (xs.getD i .non).isNum := by
            show (decide ((xs.length : Int) = (w : Int)) && xs.all D.isNum) = _
            rw [decide_eq_true hx, Bool.true_and, all_rng]
          have key : SB C (bodyOf ((defBody s_law_sized).getD 1 (.Pass ⟨0, 0, 0, 0⟩))) (E (.dat (.tup xs)) .no) [] (if (List.range xs.length).all (fun i => (xs.getD i .non).isNum) = true then .nx (E (.dat (.tup xs)) .no) [] else .rt (.dat (.bl false)) []) := by
            refine SB.cons (E1 := E (.dat (.tup xs)) .no) (M1 := []) (ST.no (ET.to (EW.et (EW.or (k1 := false) (k2 := false) (ET.to (ET.not (ET.val (EV.isTuple (EV.nm 3) W.b.isinstance W.b.tuple))) rfl) (fun _ => EW.or1 (ET.to (ET.cm (EV.len (EV.nm 3) rfl W.b.len) (EV.nm 2) CS.neI) (by rw [decide_eq_true hx]; rfl))) (fun z => nomatch z))) rfl) SB.nil) ?_
            refine SB.forB (n := xs.length) (good := fun i => (xs.getD i .non).isNum) (out := .dat (.bl false)) (E0 := E (.dat (.tup xs)) .no) (M0 := []) (EI.tup (EV.nm 3)) Fg.refl True.intro (fun j hj => ?_) (fun h => by rw [if_pos h]; exact SB.nil) (fun h => by rw [if_neg (by rw [h]; exact Bool.false_ne_true)])
            rw [atO_at]
            generalize xs.getD j .non = y
            refine ⟨E (.dat (.tup xs)) (.dat y), EG.nm 4 c_law_sized.nd, fun h => ⟨E (.dat (.tup xs)) (.dat y), Fg.cons (Fg.cons (Fg.cons (Fg.cons (Fg.no Fg.nil)))), ?_⟩, fun h => ?_⟩
            · obtain ⟨i, rfl⟩ : ∃ i, y = .int i := by cases y <;> first | exact ⟨_, rfl⟩ | cases h
              exact SB.one (ST.no (ET.to (EW.et (EW.or (k1 := false) (ET.to (ET.not (ET.val (EV.isInt (EV.nm 4) W.b.isinstance W.b.int))) rfl) (fun _ => EW.or1 (k := false) (ET.to (ET.val (EV.isBool (EV.nm 4) W.b.isinstance W.b.bool)) rfl)) (fun _ => rfl))) rfl) SB.nil)
            · rcases num_no h with ⟨b, rfl⟩ | hy
              · exact SB.stop (ST.yes (ET.to (EW.et (EW.or (k1 := false) (k2 := true) (ET.to (ET.not (ET.val (EV.isInt (EV.nm 4) W.b.isinstance W.b.int))) rfl) (fun _ => EW.or1 (ET.to (ET.val (EV.isBool (EV.nm 4) W.b.isinstance W.b.bool)) rfl)) (fun z => nomatch z))) rfl) (SB.one (ST.ret EV.bl)))
              · exact SB.stop (ST.yes (ET.to (EW.et (EW.or (k1 := true) (k2 := true) (ET.to (ET.not (ET.val (EV.isInt (EV.nm 4) W.b.isinstance W.b.int))) (by rw [hy]; rfl)) (fun z => nomatch z) (fun _ => rfl))) rfl) (SB.one (ST.ret EV.bl)))
          rw [e2]
          refine ⟨fun h => ⟨E (.dat (.tup xs)) .no, Fg.cons (Fg.cons (Fg.cons (Fg.no Fg.refl))), ?_⟩, fun h => ?_⟩
          · rw [if_pos h] at key
            exact key
          · rw [if_neg (by rw [h]; exact Bool.false_ne_true)] at key
            exact key
        · have e2 : lineB w (.tup xs) = false := by
            show (decide ((xs.length : Int) = (w : Int)) && xs.all D.isNum) = _
            rw [decide_eq_false hx, Bool.false_and]
          rw [e2]
          exact ⟨fun h => (Bool.false_ne_true h).elim, fun _ => SB.stop (ST.yes (ET.to (EW.et (EW.or (k1 := false) (k2 := true) (ET.to (ET.not (ET.val (EV.isTuple (EV.nm 3) W.b.isinstance W.b.tuple))) rfl) (fun _ => EW.or1 (ET.to (ET.cm (EV.len (EV.nm 3) rfl W.b.len) (EV.nm 2) CS.neI) (by rw [decide_eq_false hx]; rfl))) (fun z => nomatch z))) rfl) (SB.one (ST.ret EV.bl)))⟩
      · have e2 : lineB w q = false := by cases q <;> first | rfl | cases hq
        rw [e2]
        exact ⟨fun h => (Bool.false_ne_true h).elim, fun _ => SB.stop (ST.yes (ET.to (EW.et (EW.or (k1 := true) (k2 := true) (ET.to (ET.not (ET.val (EV.isTuple (EV.nm 3) W.b.isinstance W.b.tuple))) (by rw [hq]; rfl)) (fun z => nomatch z) (fun _ => rfl))) rfl) (SB.one (ST.ret EV.bl)))⟩
    · have e1 : tabB n w (.tup ds) = false := by
        show (decide ((ds.length : Int) = (n : Int)) && ds.all (lineB w)) = _
        rw [decide_eq_false hl, Bool.false_and]
      rw [e1]
      exact SB.stop (ST.yes (ET.to (EW.et (EW.or (k1 := false) (k2 := true) (ET.to (ET.not (ET.val (EV.isTuple (EV.nm 0) W.b.isinstance W.b.tuple))) rfl) (fun _ => EW.or1 (ET.to (ET.cm (EV.len (EV.nm 0) rfl W.b.len) (EV.nm 1) CS.neI) (by rw [decide_eq_false hl]; rfl))) (fun z => nomatch z))) rfl) (SB.one (ST.ret EV.bl)))
  · have e1 : tabB n w d = false := by cases d <;> first | rfl | cases hd
    rw [e1]
    exact SB.stop (ST.yes (ET.to (EW.et (EW.or (k1 := true) (k2 := true) (ET.to (ET.not (ET.val (EV.isTuple (EV.nm 0) W.b.isinstance W.b.tuple))) (by rw [hd]; rfl)) (fun z => nomatch z) (fun _ => rfl))) rfl) (SB.one (ST.ret EV.bl)))
end
end
section
section
variable {g : Pg}
theorem cel_app {m : List (List Int)} {v : List Int} : (some ((m.map lV).map O.dat ++ [O.dat (lV v)]) : Option (List O)) = cel (m ++ [v]) := by
  show some _ = some _
  rw [List.map_append, List.map_append]
  rfl
theorem ok_law_unit (W : Wd g) : FN g "_law_unit" 1 (P1 fun d r => ∃ n : Nat, n < 1000 ∧ d = .int (n : Int) ∧ r = lM (unitM n)) := by
  refine FN.mk1x W.t_law_unit c_law_unit (fun _ _ _ _ _ _ us hl => match us, hl with | [_], _ => rfl) (fun d r h => ?_)
  obtain ⟨n, hn, rfl, rfl⟩ := h
  let ro : Nat → List Int := fun i => (List.range n).map fun j => if j = i then 1 else 0
  let E : O → O → List O := fun t i => [.dat (.int (n : Int)), t, i, .no]
  have hro : ∀ i : Nat, D.lst ((List.range ((n : Nat) : Int).toNat).map fun (j : Nat) => D.int (if decide ((i : Int) = (j : Int)) = true then 1 else 0)) = lV (ro i) := fun i => by
    rw [Int.toNat_natCast]
    show _ = D.lst ((List.map _ _).map D.int)
    rw [List.map_map]
    congr 1
    refine List.map_congr_left fun j _ => ?_
    show D.int _ = D.int _
    congr 1
    show (if decide ((i : Int) = (j : Int)) = true then (1 : Int) else 0) = (if j = i then 1 else 0)
    by_cases h : j = i
    · rw [if_pos h, if_pos (decide_eq_true (by omega))]
    · rw [if_neg h, if_neg (by rw [decide_eq_true_eq]; omega)]
  refine ⟨[none], SB.cons (E1 := E (.adr 0) .no) (M1 := [cel []]) (ST.set 1 (EV.cel EA.nil (by decide)) c_law_unit.nd) (SB.cons (E1 := E (.adr 0) .no) (M1 := [cel ((List.range n).map ro)]) (ST.to (ST.forN 2 (n := ((n : Nat) : Int).toNat) (E_ := fun _ => E (.adr 0) .no) (M_ := fun i => [cel ((List.range i).map ro)]) (EI.rng1 (EV.nm 0) W.b.range (by omega)) Fg.refl rfl (fun _ _ => True.intro) c_law_unit.nd (fun i hi => ?_)) (by rw [Int.toNat_natCast])) (SB.fz (jj := 1) (nn := 0) (ds := ((List.range n).map ro).map lV) rfl rfl (SB.one (ST.ret (EV.nm 1)))))⟩
  rw [atI0_eq]
  refine ⟨E (.adr 0) (.dat (.int (i : Int))), Fg.cons (Fg.cons (Fg.no Fg.refl)), SB.one (ST.to (ST.exp (EV.append (n := 0) (ps := (((List.range i).map ro).map lV).map O.dat) (EV.nm 1) (EV.to (LC.ev (LC.lR 3 (j := ((n : Nat) : Int)) (g := fun (j : Nat) => .int (if decide ((i : Int) = (j : Int)) = true then 1 else 0)) (own := [("j", 3)]) (by rfl) c_law_unit.nd rfl (EV.nm 0) W.b.range (Nat.le_refl _) OkM.refl (by omega) (fun j hj M => EV.intB (EV.cm (EV.nm 2) (EV.nm 3) CS.eqI) W.b.int))) (by rw [hro i])) rfl rfl (by rw [List.length_map, List.length_map, List.length_map, List.length_range]; omega))) ?_)⟩
  show Out.nx _ [some ((((List.range i).map ro).map lV).map O.dat ++ [O.dat (lV (ro i))])] = Out.nx _ [cel ((List.range (i + 1)).map ro)]
  rw [cel_app, List.range_succ, List.map_append]
  rfl
/-! ### products -/
def tmR (n : List (List Int)) (r : List Int) : List Int := (List.range (wd n)).map fun j => ((List.range n.length).map fun k => r.getD k 0 * gE n k j).sum
theorem dot_tm {r : List Int} {n : List (List Int)} {j : Nat} (h : r.length = n.length) : dot r (n.map fun q => q.getD j 0) = ((List.range n.length).map fun k => r.getD k 0 * gE n k j).sum := by
  unfold dot
  congr 1
  refine List.ext_getElem (by rw [List.length_map, List.length_zip, List.length_map, List.length_map, List.length_range]; omega) fun k h1 h2 => ?_
  rw [List.length_map, List.length_range] at h2
  rw [List.getElem_map, List.getElem_zip, List.getElem_map, List.getElem_map, List.getElem_range]
  unfold gE
  rw [List.getD_eq_getElem?_getD (l := r), List.getElem?_eq_getElem (by omega), List.getD_eq_getElem?_getD (l := n), List.getElem?_eq_getElem h2]
  rfl
theorem mul_tm {m n : List (List Int)} (h : ∀ q ∈ m, q.length = n.length) : mulM m n = m.map (tmR n) := by
  unfold mulM
  refine List.map_congr_left fun q hq => ?_
  unfold flip tmR
  rw [List.map_map]
  exact List.map_congr_left fun j _ => dot_tm (h q hq)
theorem ok_law_times (W : Wd g) : FN g "_law_times" 1 (P2 fun d e r => ∃ m n, Sq d m ∧ Sq e n ∧ n ≠ [] ∧ (∀ q ∈ m, q.length = n.length) ∧ (∀ q ∈ n, q.length = wd n) ∧ m.length < 1000 ∧ n.length < 1000 ∧ wd n < 1000 ∧ MulOk m n ∧ r = lM (mulM m n)) := by
  refine FN.mk2x' W.t_law_times c_law_times (fun _ _ _ _ _ _ us hl => match us, hl with | [_, _], _ => rfl) (fun d e r h => ?_)
  obtain ⟨m, n, ⟨ds, hs, hp⟩, hn, hne, hmr, hnr, l1, l2, l3, ok, rfl⟩ := h
  rw [mul_tm hmr]
  have hn0 : 0 < n.length := by cases n with
    | nil => exact absurd rfl hne
    | cons _ _ => exact Nat.succ_pos _
  have hw0 : (n.getD 0 []).length = wd n := hnr _ (mem_getD hn0)
  obtain ⟨b0, hb0, hb1⟩ := hn.at_ hn0
  have hlen : ds.length = m.length := Paired.length hp
  let E : O → O → List O := fun t l => [.dat d, .dat e, t, l, .no, .no]
  refine ⟨[none], SB.cons (E1 := E (.adr 0) .no) (M1 := [cel []]) (ST.set 2 (EV.cel EA.nil (by decide)) c_law_times.nd) (SB.cons (E1 := E (.adr 0) .no) (M1 := [cel (m.map (tmR n))]) (ST.to (ST.forN 3 (E_ := fun _ => E (.adr 0) .no) (M_ := fun i => [cel ((m.take i).map (tmR n))]) (EI.seq (EV.nm 0) hs) Fg.refl rfl (fun _ _ => True.intro) c_law_times.nd (fun i hi => ?_)) (by rw [hlen, List.take_length])) (SB.fz (jj := 2) (nn := 0) (ds := (m.map (tmR n)).map lV) rfl rfl (SB.one (ST.ret (EV.nm 2)))))⟩
  have hi' : i < m.length := by omega
  obtain ⟨q, e1, e2⟩ := paired_at hp (List.getElem?_eq_getElem hi')
  have ea : atO ds i = .dat q := by
    unfold atO
    rw [List.getD_eq_getElem?_getD, e1]
    rfl
  rw [ea]
  have hql := hmr _ (List.getElem_mem hi')
  have hro : D.lst ((List.range ((wd n : Nat) : Int).toNat).map fun j => D.int ((List.range n.length).map fun k => m[i].getD k 0 * gE n k j).sum) = lV (tmR n m[i]) := by
    rw [Int.toNat_natCast]
    exact lV_map
  refine ⟨E (.adr 0) (.dat q), Fg.cons (Fg.cons (Fg.cons (Fg.no Fg.refl))), SB.one (ST.to (ST.exp (EV.append (n := 0) (ps := (((m.take i).map (tmR n)).map lV).map O.dat) (EV.nm 2) (EV.to (LC.ev (LC.lR 4 (j := ((wd n : Nat) : Int)) (g := fun j => .int ((List.range n.length).map fun k => m[i].getD k 0 * gE n k j).sum) (own := [("j", 4)]) (by rfl) c_law_times.nd rfl (EV.len (EV.ix (EV.nm 1) EV.int hb0) (by rw [sqV_len hb1, hw0]) W.b.len) W.b.range (Nat.le_refl _) OkM.refl (by omega) (fun j hj M => ?_))) (by rw [hro])) rfl rfl (by rw [List.length_map, List.length_map, List.length_map, List.length_take]; omega))) ?_)⟩
  · have hj' : j < wd n := by omega
    refine EV.sum (ns := (List.range n.length).map fun k => m[i].getD k 0 * gE n k j) ?_ W.b.sum
    rw [List.map_map]
    refine EV.to (LC.ev (LC.lR 5 (j := ((n.length : Nat) : Int)) (g := fun k => .int (m[i].getD k 0 * gE n k j)) (own := [("k", 5)]) (by rfl) c_law_times.nd rfl (EV.len (EV.nm 1) hn.len W.b.len) W.b.range (Nat.le_refl _) OkM.refl (by omega) (fun k hk M => ?_))) (by rw [Int.toNat_natCast]; rfl)
    have hk' : k < n.length := by omega
    refine EV.mul (EV.ix (EV.nm 3) (EV.nm 5) (sqV_at e2 (by omega))) (ev_at hn (EV.nm 1) (EV.nm 5) (EV.nm 4) hk' (by rw [hnr _ (mem_getD hk')]; exact hj')) (ok _ (List.getElem_mem hi') _ (mem_getD (by omega)) _ (mem_getD hk') _ (mem_getD (by rw [hnr _ (mem_getD hk')]; exact hj')))
  · show Out.nx _ [some ((((m.take i).map (tmR n)).map lV).map O.dat ++ [O.dat (lV (tmR n m[i]))])] = Out.nx _ [cel ((m.take (i + 1)).map (tmR n))]
    rw [cel_app, List.take_succ_eq_append_getElem hi', List.map_append]
    rfl
/-! ### a step undone -/
inductive Und (n : Nat) : D → (List Int → List Int) → Prop where
  | turn {i : Nat} : i < n → Und n (.tup [.str "turn", .int (i : Int)]) (fun v => v.set i (0 - v.getD i 0))
  | swap {i j : Nat} : i < n → j < n → j ≠ i → Und n (.tup [.str "swap", .int (i : Int), .int (j : Int)]) (fun v => (v.set i (v.getD j 0)).set j (v.getD i 0))
  | add {i j : Nat} {k : Int} : i < n → j < n → j ≠ i → k.natAbs ≤ 2 ^ 100 → Und n (.tup [.str "add", .int (i : Int), .int (j : Int), .int k]) (fun v => v.set j (v.getD j 0 - k * v.getD i 0))
theorem und_ex {n : Nat} {d : D} (h : Dd n d) : ∃ f, Und n d f := by
  cases h with
  | turn h1 => exact ⟨_, .turn h1⟩
  | swap h1 h2 h3 => exact ⟨_, .swap h1 h2 h3⟩
  | add h1 h2 h3 h4 => exact ⟨_, .add h1 h2 h3 h4⟩
theorem Und.len {n : Nat} {d : D} {f : List Int → List Int} (h : Und n d f) {v : List Int} : (f v).length = v.length := by
  cases h <;> simp only [List.length_set]
theorem r1_get {a x : Option (List O)} (i : Nat) : (a :: (List.replicate i (none : Option (List O)) ++ [x]))[i + 1]? = some x := by
  show (List.replicate i none ++ [x])[i]? = _
  rw [List.getElem?_append_right (by rw [List.length_replicate]; exact Nat.le_refl _), List.length_replicate, Nat.sub_self]
  rfl
theorem r1_set {a x y : Option (List O)} (i : Nat) : (a :: (List.replicate i (none : Option (List O)) ++ [x])).set (i + 1) y = a :: (List.replicate i none ++ [y]) := by
  show a :: (List.replicate i none ++ [x]).set i y = _
  rw [List.set_append_right _ _ (by rw [List.length_replicate]; exact Nat.le_refl _), List.length_replicate, Nat.sub_self]
  rfl
theorem ok_law_undo (W : Wd g) : FN g "_law_undo" 1 (P2 fun d e r => ∃ m n f, d = lM m ∧ Und n e f ∧ m.length < 1000 ∧ (∀ q ∈ m, q.length = n) ∧ Bd m ∧ r = lM (m.map f)) := by
  refine FN.mk2x' W.t_law_undo c_law_undo (fun _ _ _ _ _ _ us hl => match us, hl with | [_, _], _ => rfl) (fun d e r h => ?_)
  obtain ⟨m, n, f, rfl, hU, l1, hw, hbd, rfl⟩ := h
  let E : Nat → O → O → O → List O := fun i0 t l o => [.dat (lM m), .dat e, t, .dat (.int (i0 : Int)), l, o]
  let C := mkC g n_law_undo s_law_undo 0
  let Mi : (List Int → List Int) → Nat → Mem := fun F i => cel ((m.take i).map F) :: List.replicate i none
  let Ml : (List Int → List Int) → Nat → List Int → Mem := fun F i v => cel ((m.take i).map F) :: (List.replicate i none ++ [rowC v])
  have lrow : ∀ {F : List Int → List Int} {i : Nat} {v : List Int}, (Ml F i v)[i + 1]? = some (rowC v) := fun {F i v} => r1_get i
  have put : ∀ {F : List Int → List Int} {i j : Nat} {v : List Int} {x : Int} {E' : List O}, Out.nx E' ((Ml F i v).set (i + 1) (some (((v.map D.int).map O.dat).set j (.dat (.int x))))) = Out.nx E' (Ml F i (v.set j x)) := fun {F i j v x E'} => by
    show Out.nx _ ((Ml F i v).set (i + 1) _) = _
    rw [r1_set, row_set]
  have go : ∀ (i0 : Nat) (F : List Int → List Int), ixD e 1 = some (.int (i0 : Int)) → (∀ (i : Nat) (q : List Int), q ∈ m → ST C ((bodyOf ((defBody s_law_undo).getD 2 (.Pass ⟨0, 0, 0, 0⟩))).getD 1 (.Pass ⟨0, 0, 0, 0⟩)) (E i0 (.adr 0) (.dat (lV q)) (.adr (i + 1))) (Ml F i q) (.nx (E i0 (.adr 0) (.dat (lV q)) (.adr (i + 1))) (Ml F i (F q)))) → ∃ J, SB C (defBody s_law_undo) (pad n_law_undo [.dat (lM m), .dat e]) [] (.rt (.dat (lM (m.map F))) J) := fun i0 F he hst => by
    refine ⟨none :: List.replicate m.length none, SB.cons (E1 := [.dat (lM m), .dat e, .adr 0, .no, .no, .no]) (M1 := [cel []]) (ST.set 2 (EV.cel EA.nil (by decide)) c_law_undo.nd) (SB.cons (E1 := E i0 (.adr 0) .no .no) (M1 := [cel []]) (ST.set 3 (EV.ix (EV.nm 1) EV.int he) c_law_undo.nd) (SB.cons (E1 := E i0 (.adr 0) .no .no) (M1 := Mi F m.length) (ST.to (ST.forN 4 (n := (m.map lV).length) (E_ := fun _ => E i0 (.adr 0) .no .no) (M_ := Mi F) (EI.seq (EV.nm 0) rfl) Fg.refl rfl (fun _ _ => True.intro) c_law_undo.nd (fun i hi => ?_)) (by rw [List.length_map])) ?_))⟩
    · have hi' : i < m.length := by rwa [List.length_map] at hi
      rw [atO_map hi']
      have hqm := List.getElem_mem hi'
      refine ⟨E i0 (.adr 0) (.dat (lV m[i])) (.dat (lV (F m[i]))), Fg.cons (Fg.cons (Fg.cons (Fg.cons (Fg.no (Fg.no Fg.nil))))), ?_⟩
      refine SB.cons (E1 := E i0 (.adr 0) (.dat (lV m[i])) (.adr (i + 1))) (M1 := Ml F i m[i]) (ST.to (ST.set 5 (EV.listN (EV.nm 4) rfl W.b.list) c_law_undo.nd) ?_) (SB.cons (hst i m[i] hqm) ?_)
      · show Out.nx (E i0 (.adr 0) (.dat (lV m[i])) (.adr (Mi F i).length)) _ = _
        rw [show (Mi F i).length = i + 1 by show (_ :: List.replicate i none).length = _; rw [List.length_cons, List.length_replicate]]
        rfl
      · refine SB.fz (jj := 5) (nn := i + 1) (ds := (F m[i]).map D.int) rfl lrow ?_
        rw [r1_set]
        refine SB.one (ST.to (ST.exp (EV.append (n := 0) (ps := (((m.take i).map F).map lV).map O.dat) (EV.nm 2) (EV.nm 5) rfl rfl (by rw [List.length_map, List.length_map, List.length_map, List.length_take]; omega))) ?_)
        show Out.nx _ (some ((((m.take i).map F).map lV).map O.dat ++ [O.dat (lV (F m[i]))]) :: (List.replicate i none ++ [none])) = Out.nx _ (Mi F (i + 1))
        rw [cel_app]
        show _ = Out.nx _ (cel ((m.take (i + 1)).map F) :: List.replicate (i + 1) none)
        rw [List.take_succ_eq_append_getElem hi', List.map_append, List.replicate_succ']
        rfl
    · have e1 : Mi F m.length = cel (m.map F) :: List.replicate m.length none := by
        show cel ((m.take m.length).map F) :: _ = _
        rw [List.take_length]
      rw [e1]
      exact SB.fz (jj := 2) (nn := 0) (ds := (m.map F).map lV) rfl rfl (SB.one (ST.ret (EV.nm 2)))
  cases hU with
  | @turn i h1 =>
    exact go i _ rfl fun a q hq => ST.yes (ET.to (ET.cm (EV.ix (EV.nm 1) EV.int (by rfl)) EV.str CS.eqS) (by rfl)) (SB.one (ST.to (ST.asg (EV.sub EV.int (EV.ix (EV.nm 4) (EV.nm 3) (ix_lV (by rw [hw q hq]; exact h1)))) (EG.sub (n := a + 1) (jj := i) (ps := (q.map D.int).map O.dat) (EV.nm 5) (EV.nm 3) lrow (by rw [row_len]; exact ixN_of (by rw [hw q hq]; exact h1)))) put))
  | @swap i j h1 h2 h3 =>
    exact go i _ rfl fun a q hq => ST.no (ET.to (ET.cm (EV.ix (EV.nm 1) EV.int (by rfl)) EV.str CS.eqS) (by rfl)) (SB.one (ST.yes (ET.to (ET.cm (EV.ix (EV.nm 1) EV.int (by rfl)) EV.str CS.eqS) (by rfl)) (SB.cons (ST.to (ST.asg (EV.ix (EV.nm 4) (EV.ix (EV.nm 1) EV.int (by rfl)) (ix_lV (by rw [hw q hq]; exact h2))) (EG.sub (n := a + 1) (jj := i) (ps := (q.map D.int).map O.dat) (EV.nm 5) (EV.nm 3) lrow (by rw [row_len]; exact ixN_of (by rw [hw q hq]; exact h1)))) put) (SB.one (ST.to (ST.asg (EV.ix (EV.nm 4) (EV.nm 3) (ix_lV (by rw [hw q hq]; exact h1))) (EG.sub (n := a + 1) (jj := j) (ps := ((q.set i (q.getD j 0)).map D.int).map O.dat) (EV.nm 5) (EV.ix (EV.nm 1) EV.int (by rfl)) lrow (by rw [row_len, List.length_set]; exact ixN_of (by rw [hw q hq]; exact h2)))) put)))))
  | @add i j k h1 h2 h3 h4 =>
    exact go i _ rfl fun a q hq => ST.no (ET.to (ET.cm (EV.ix (EV.nm 1) EV.int (by rfl)) EV.str CS.eqS) (by rfl)) (SB.one (ST.no (ET.to (ET.cm (EV.ix (EV.nm 1) EV.int (by rfl)) EV.str CS.eqS) (by rfl)) (SB.one (ST.to (ST.asg (EV.sub (EV.ix (EV.nm 4) (EV.ix (EV.nm 1) EV.int (by rfl)) (ix_lV (by rw [hw q hq]; exact h2))) (EV.mul (EV.ix (EV.nm 1) EV.int (by rfl)) (EV.ix (EV.nm 4) (EV.nm 3) (ix_lV (by rw [hw q hq]; exact h1))) (mulOk_bits h4 (getD_bd (hbd q hq)) (by decide)))) (EG.sub (n := a + 1) (jj := j) (ps := (q.map D.int).map O.dat) (EV.nm 5) (EV.ix (EV.nm 1) EV.int (by rfl)) lrow (by rw [row_len]; exact ixN_of (by rw [hw q hq]; exact h2)))) put))))
end
end
section
/-! ### sums, products -/
section
def sumN : Nat → (Nat → Int) → Int
  | 0, _ => 0
  | n + 1, f => sumN n f + f n
theorem sumN_congr {f g : Nat → Int} : ∀ n, (∀ k, k < n → f k = g k) → sumN n f = sumN n g
  | 0, _ => rfl
  | n + 1, h => by
    show sumN n f + f n = sumN n g + g n
    rw [sumN_congr n fun k hk => h k (by omega), h n (by omega)]
theorem sumN_add {f g : Nat → Int} : ∀ n, sumN n (fun k => f k + g k) = sumN n f + sumN n g
  | 0 => rfl
  | n + 1 => by
    show sumN n (fun k => f k + g k) + (f n + g n) = (sumN n f + f n) + (sumN n g + g n)
    rw [sumN_add n]
    omega
theorem sumN_mul {f : Nat → Int} {c : Int} : ∀ n, sumN n (fun k => c * f k) = c * sumN n f
  | 0 => by simp [sumN]
  | n + 1 => by
    show sumN n (fun k => c * f k) + c * f n = c * (sumN n f + f n)
    rw [sumN_mul n, Int.mul_add]
theorem sumN_zero : ∀ n, sumN n (fun _ => 0) = 0
  | 0 => rfl
  | n + 1 => by
    show sumN n (fun _ => 0) + 0 = 0
    rw [sumN_zero n]
    rfl
theorem sumN_at {α : Int} {i : Nat} : ∀ n, sumN n (fun k => if k = i then α else 0) = if i < n then α else 0
  | 0 => by rw [if_neg (Nat.not_lt_zero i)]; rfl
  | n + 1 => by
    show sumN n (fun k => if k = i then α else 0) + (if n = i then α else 0) = _
    rw [sumN_at n]
    by_cases h1 : n = i
    · rw [if_neg (by omega), if_pos h1, if_pos (by omega)]
      omega
    · rw [if_neg h1]
      by_cases h2 : i < n
      · rw [if_pos h2, if_pos (by omega)]
        omega
      · rw [if_neg h2, if_neg (by omega)]
        omega
theorem sumN_two {f f' : Nat → Int} {n i j : Nat} (hi : i < n) (hj : j < n) (hij : i ≠ j) (h : ∀ k, k ≠ i → k ≠ j → f' k = f k) (h2 : f' i + f' j = f i + f j) : sumN n f' = sumN n f := by
  have e : sumN n f' = sumN n fun k => f k + ((if k = i then f' i - f i else 0) + (if k = j then f' j - f j else 0)) := sumN_congr n fun k _ => by
    by_cases a : k = i
    · subst a
      rw [if_pos rfl, if_neg hij]
      omega
    · by_cases b : k = j
      · subst b
        rw [if_neg a, if_pos rfl]
        omega
      · rw [if_neg a, if_neg b, h k a b]
        omega
  rw [e, sumN_add, sumN_add, sumN_at, sumN_at, if_pos hi, if_pos hj]
  omega
theorem sumN_swap {f : Nat → Nat → Int} {m : Nat} : ∀ n, sumN n (fun k => sumN m (f k)) = sumN m (fun l => sumN n fun k => f k l)
  | 0 => (sumN_zero m).symm
  | n + 1 => by
    show sumN n (fun k => sumN m (f k)) + sumN m (f n) = _
    rw [sumN_swap n, ← sumN_add]
    rfl
theorem sumN_mulR {f : Nat → Int} {c : Int} (n : Nat) : sumN n (fun k => f k * c) = sumN n f * c := by
  rw [Int.mul_comm, ← sumN_mul]
  exact sumN_congr n fun k _ => Int.mul_comm _ _
theorem sumN_range {f : Nat → Int} : ∀ n, ((List.range n).map f).sum = sumN n f
  | 0 => rfl
  | n + 1 => by
    rw [List.range_succ, List.map_append, List.sum_append, sumN_range n]
    show sumN n f + (f n + 0) = sumN n f + f n
    rw [Int.add_zero]
/-! ### steps of rows as functions -/
abbrev Rw := Nat → Nat → Int
inductive Op where
  | turn (i : Nat) | swap (i j : Nat) | add (i j : Nat) (k : Int)
def Op.ok (n : Nat) : Op → Prop
  | .turn i => i < n
  | .swap i j => i < n ∧ j < n ∧ j ≠ i
  | .add i j _ => i < n ∧ j < n ∧ j ≠ i
def Op.sm (K : Nat) : Op → Prop
  | .add _ _ k => k.natAbs ≤ K
  | _ => True
def Op.act : Op → Rw → Rw
  | .turn i, R => fun a c => if a = i then -R i c else R a c
  | .swap i j, R => fun a c => if a = j then R i c else if a = i then R j c else R a c
  | .add i j k, R => fun a c => if a = i then R i c + k * R j c else R a c
def Op.dual : Op → Op
  | .turn i => .turn i
  | .swap i j => .swap i j
  | .add i j k => .add j i (-k)
theorem act_one {n : Nat} {o : Op} (h : o.ok n) (R C : Rw) (x y : Nat) : sumN n (fun k => o.act R k y * o.dual.act C k x) = sumN n fun k => R k y * C k x := by
  cases o with
  | turn i =>
    refine sumN_congr n fun k _ => ?_
    show (if k = i then -R i y else R k y) * (if k = i then -C i x else C k x) = _
    by_cases e : k = i
    · subst e
      rw [if_pos rfl, if_pos rfl, Int.neg_mul_neg]
    · rw [if_neg e, if_neg e]
  | swap i j =>
    obtain ⟨hi, hj, hij⟩ := h
    refine sumN_two hi hj (fun z => hij z.symm) (fun k a b => ?_) ?_
    · show (if k = j then R i y else if k = i then R j y else R k y) * (if k = j then C i x else if k = i then C j x else C k x) = _
      rw [if_neg b, if_neg a, if_neg b, if_neg a]
    · show (if i = j then R i y else if i = i then R j y else R i y) * (if i = j then C i x else if i = i then C j x else C i x) + (if j = j then R i y else if j = i then R j y else R j y) * (if j = j then C i x else if j = i then C j x else C j x) = _
      rw [if_neg (fun z => hij z.symm), if_pos rfl, if_neg (fun z => hij z.symm), if_pos rfl, if_pos rfl, if_pos rfl, Int.add_comm]
  | add i j k =>
    obtain ⟨hi, hj, hij⟩ := h
    refine sumN_two hi hj (fun z => hij z.symm) (fun l a b => ?_) ?_
    · show (if l = i then R i y + k * R j y else R l y) * (if l = j then C j x + -k * C i x else C l x) = _
      rw [if_neg a, if_neg b]
    · show (if i = i then R i y + k * R j y else R i y) * (if i = j then C j x + -k * C i x else C i x) + (if j = i then R i y + k * R j y else R j y) * (if j = j then C j x + -k * C i x else C j x) = _
      rw [if_pos rfl, if_neg (fun z => hij z.symm), if_neg hij, if_pos rfl, Int.add_mul, Int.mul_add, Int.neg_mul, Int.mul_neg]
      have : k * R j y * C i x = R j y * (k * C i x) := by rw [Int.mul_comm k, Int.mul_assoc]
      omega
def ip (n : Nat) (f g : Nat → Int) : Int := sumN n fun c => f c * g c
theorem ip_comm {n : Nat} {f g : Nat → Int} : ip n f g = ip n g f := sumN_congr n fun _ _ => Int.mul_comm _ _
theorem ip_neg {n : Nat} {f g : Nat → Int} : ip n (fun c => -f c) g = -ip n f g := by
  have e : ip n (fun c => -f c) g = sumN n fun c => (-1) * (f c * g c) := sumN_congr n fun c _ => by
    show -f c * g c = -1 * (f c * g c)
    rw [Int.neg_mul, Int.neg_mul, Int.one_mul]
  rw [e, sumN_mul, Int.neg_mul, Int.one_mul]
  rfl
theorem ip_add {n : Nat} {f g h : Nat → Int} {k : Int} : ip n (fun c => f c + k * g c) h = ip n f h + k * ip n g h := by
  have e : ip n (fun c => f c + k * g c) h = sumN n fun c => f c * h c + k * (g c * h c) := sumN_congr n fun c _ => by
    show (f c + k * g c) * h c = f c * h c + k * (g c * h c)
    rw [Int.add_mul, Int.mul_assoc]
  rw [e, sumN_add, sumN_mul]
  rfl
def dlt (a b : Nat) : Int := if a = b then 1 else 0
theorem dlt_comm {a b : Nat} : dlt a b = dlt b a := by
  unfold dlt
  by_cases h : a = b
  · rw [if_pos h, if_pos h.symm]
  · rw [if_neg h, if_neg fun z => h z.symm]
theorem dlt_self {a : Nat} : dlt a a = 1 := if_pos rfl
theorem dlt_ne {a b : Nat} (h : a ≠ b) : dlt a b = 0 := if_neg h
theorem act_row {o : Op} {R : Rw} {n : Nat} (g : Nat → Int) (a : Nat) : ip n (o.act R a) g = o.act (fun b (_ : Nat) => ip n (R b) g) a 0 := by
  cases o with
  | turn i =>
    by_cases e : a = i
    · show ip n (fun c => if a = i then -R i c else R a c) g = if a = i then -ip n (R i) g else ip n (R a) g
      simp only [if_pos e]
      exact ip_neg
    · show ip n (fun c => if a = i then -R i c else R a c) g = if a = i then -ip n (R i) g else ip n (R a) g
      simp only [if_neg e]
  | swap i j =>
    show ip n (fun c => if a = j then R i c else if a = i then R j c else R a c) g = if a = j then ip n (R i) g else if a = i then ip n (R j) g else ip n (R a) g
    by_cases e : a = j
    · simp only [if_pos e]
    · by_cases e2 : a = i
      · simp only [if_neg e, if_pos e2]
      · simp only [if_neg e, if_neg e2]
  | add i j k =>
    show ip n (fun c => if a = i then R i c + k * R j c else R a c) g = if a = i then ip n (R i) g + k * ip n (R j) g else ip n (R a) g
    by_cases e : a = i
    · simp only [if_pos e]
      exact ip_add
    · simp only [if_neg e]
theorem act_dlt {n : Nat} {o : Op} (h : o.ok n) {R C : Rw} (hd : ∀ a b, a < n → b < n → ip n (R a) (C b) = dlt a b) : ∀ a b, a < n → b < n → ip n (o.act R a) (o.dual.act C b) = dlt a b := fun a b ha hb => by
  rw [act_row]
  have e : ∀ c, c < n → ip n (R c) (o.dual.act C b) = o.dual.act (fun b' (_ : Nat) => dlt c b') b 0 := fun c hc => by
    rw [ip_comm, act_row]
    cases o with
    | turn i =>
      have hi : i < n := h
      show (if b = i then -ip n (C i) (R c) else ip n (C b) (R c)) = if b = i then -dlt c i else dlt c b
      rw [ip_comm, hd c i hc hi, ip_comm, hd c b hc hb]
    | swap i j =>
      obtain ⟨hi, hj, _⟩ := h
      show (if b = j then ip n (C i) (R c) else if b = i then ip n (C j) (R c) else ip n (C b) (R c)) = if b = j then dlt c i else if b = i then dlt c j else dlt c b
      rw [ip_comm, hd c i hc hi, ip_comm, hd c j hc hj, ip_comm, hd c b hc hb]
    | add i j k =>
      obtain ⟨hi, hj, _⟩ := h
      show (if b = j then ip n (C j) (R c) + -k * ip n (C i) (R c) else ip n (C b) (R c)) = if b = j then dlt c j + -k * dlt c i else dlt c b
      rw [ip_comm (f := C j), hd c j hc hj, ip_comm (f := C i), hd c i hc hi, ip_comm, hd c b hc hb]
  cases o with
  | turn i =>
    have hi : i < n := h
    show (if a = i then -ip n (R i) _ else ip n (R a) _) = _
    rw [e i hi, e a ha]
    show (if a = i then -(if b = i then -dlt i i else dlt i b) else if b = i then -dlt a i else dlt a b) = _
    unfold dlt
    by_cases e1 : a = i <;> by_cases e2 : b = i <;> simp_all <;> omega
  | swap i j =>
    obtain ⟨hi, hj, hij⟩ := h
    show (if a = j then ip n (R i) _ else if a = i then ip n (R j) _ else ip n (R a) _) = _
    rw [e i hi, e j hj, e a ha]
    show (if a = j then (if b = j then dlt i i else if b = i then dlt i j else dlt i b) else if a = i then (if b = j then dlt j i else if b = i then dlt j j else dlt j b) else (if b = j then dlt a i else if b = i then dlt a j else dlt a b)) = _
    unfold dlt
    by_cases e1 : a = j <;> by_cases e2 : a = i <;> by_cases e3 : b = j <;> by_cases e4 : b = i <;> simp_all <;> omega
  | add i j k =>
    obtain ⟨hi, hj, hij⟩ := h
    show (if a = i then ip n (R i) _ + k * ip n (R j) _ else ip n (R a) _) = _
    rw [e i hi, e j hj, e a ha]
    show (if a = i then (if b = j then dlt i j + -k * dlt i i else dlt i b) + k * (if b = j then dlt j j + -k * dlt j i else dlt j b) else (if b = j then dlt a j + -k * dlt a i else dlt a b)) = _
    by_cases e1 : a = i
    · subst e1
      rw [if_pos rfl]
      by_cases e3 : b = j
      · subst e3
        rw [if_pos rfl, if_pos rfl, dlt_self, dlt_self, dlt_ne hij, dlt_ne (fun z => hij z.symm)]
        omega
      · rw [if_neg e3, if_neg e3, dlt_ne (a := j) (b := b) (fun z => e3 z.symm)]
        omega
    · rw [if_neg e1]
      by_cases e3 : b = j
      · rw [if_pos e3, dlt_ne e1, e3]
        omega
      · rw [if_neg e3]
/-! ### products -/
theorem gE_out {m : List (List Int)} {n w i j : Nat} (h : Tb m n w) (hi : n ≤ i ∨ w ≤ j) : gE m i j = 0 := by
  unfold gE
  by_cases hl : i < n
  · rw [List.getD_eq_getElem?_getD (l := m.getD i []), List.getElem?_eq_none (by rw [h.2 _ (mem_getD (by rw [h.1]; exact hl))]; omega)]
    rfl
  · rw [List.getD_eq_getElem?_getD (l := m), List.getElem?_eq_none (by rw [h.1]; omega)]
    rfl
theorem tb_wd {m : List (List Int)} {n w : Nat} (h : Tb m n w) (hn : 0 < n) : wd m = w := by
  cases m with
  | nil => exact absurd h.1 (by simp; omega)
  | cons q l => exact h.2 q List.mem_cons_self
theorem mul_tb {a b : List (List Int)} {n p w : Nat} (ha : Tb a n p) (hb : Tb b p w) (hp : 0 < p) : Tb (mulM a b) n w := by
  rw [mul_tm (n := b) fun q hq => by rw [ha.2 q hq, hb.1]]
  refine ⟨by rw [List.length_map]; exact ha.1, fun q hq => ?_⟩
  obtain ⟨r, _, rfl⟩ := List.mem_map.mp hq
  show (List.map _ _).length = w
  rw [List.length_map, List.length_range, tb_wd hb hp]
theorem gE_mul {a b : List (List Int)} {n p w : Nat} (ha : Tb a n p) (hb : Tb b p w) (hp : 0 < p) (i j : Nat) : gE (mulM a b) i j = sumN p fun k => gE a i k * gE b k j := by
  by_cases hi : i < n ∧ j < w
  · rw [mul_tm (n := b) fun q hq => by rw [ha.2 q hq, hb.1]]
    have e : gE (a.map (tmR b)) i j = (tmR b (a.getD i [])).getD j 0 := by
      unfold gE
      congr 1
      rw [List.getD_eq_getElem?_getD, List.getElem?_map, List.getElem?_eq_getElem (by rw [ha.1]; exact hi.1), List.getD_eq_getElem?_getD, List.getElem?_eq_getElem (by rw [ha.1]; exact hi.1)]
      rfl
    rw [e]
    unfold tmR
    rw [range_get (by rw [tb_wd hb hp]; exact hi.2), sumN_range, hb.1]
    rfl
  · rw [gE_out (mul_tb ha hb hp) (by omega)]
    rw [← sumN_zero p]
    refine sumN_congr p fun k _ => ?_
    by_cases h1 : i < n
    · rw [gE_out hb (i := k) (j := j) (by omega), Int.mul_zero]
    · rw [gE_out ha (i := i) (j := k) (by omega), Int.zero_mul]
theorem gE_unit {n i j : Nat} : gE (unitM n) i j = if i < n ∧ j < n then dlt i j else 0 := by
  by_cases h : i < n ∧ j < n
  · rw [if_pos h]
    unfold gE
    have : (unitM n).getD i [] = (List.range n).map fun j => if j = i then 1 else 0 := by
      unfold unitM
      rw [List.getD_eq_getElem?_getD, List.getElem?_map, List.getElem?_range h.1]
      rfl
    rw [this, range_get h.2, dlt_comm]
    rfl
  · rw [if_neg h]
    exact gE_out unit_tb (by omega)
theorem gE_flip {b : List (List Int)} {n w : Nat} (h : Tb b n w) (hn : 0 < n) (i j : Nat) : gE (flip b) i j = gE b j i := by
  have hw := tb_wd h hn
  by_cases hh : i < w ∧ j < n
  · unfold gE
    have : (flip b).getD i [] = b.map fun r => r.getD i 0 := by
      unfold flip
      rw [List.getD_eq_getElem?_getD, List.getElem?_map, List.getElem?_range (by rw [hw]; exact hh.1)]
      rfl
    rw [this, List.getD_eq_getElem?_getD, List.getElem?_map, List.getD_eq_getElem?_getD (l := b), List.getElem?_eq_getElem (by rw [h.1]; exact hh.2)]
    rfl
  · rw [gE_out h (by omega)]
    exact gE_out (n := w) (w := n) ⟨by rw [flip_length, hw], fun q hq => by rw [flip_len hq, h.1]⟩ (by omega)
theorem flip_tb {b : List (List Int)} {n w : Nat} (h : Tb b n w) (hn : 0 < n) : Tb (flip b) w n := ⟨by rw [flip_length, tb_wd h hn], fun q hq => by rw [flip_len hq, h.1]⟩
theorem tb_eq {a b : List (List Int)} {n w : Nat} (ha : Tb a n w) (hb : Tb b n w) (h : ∀ i j, i < n → j < w → gE a i j = gE b i j) : a = b :=
  rows_eq (by rw [ha.1, hb.1]) ha.2 hb.2 fun i j => by
    by_cases hh : i < n ∧ j < w
    · exact h i j hh.1 hh.2
    · rw [gE_out ha (by omega), gE_out hb (by omega)]
theorem mul_unit {h : List (List Int)} {n w : Nat} (hh : Tb h n w) (hn : 0 < n) : mulM (unitM n) h = h := tb_eq (mul_tb unit_tb hh hn) hh fun i j hi hj => by
  rw [gE_mul unit_tb hh hn, ← show (if i < n then gE h i j else 0) = gE h i j from if_pos hi, ← sumN_at n]
  refine sumN_congr n fun k hk => ?_
  rw [gE_unit, if_pos ⟨hi, hk⟩]
  unfold dlt
  by_cases e : i = k
  · rw [if_pos e, if_pos e.symm, Int.one_mul, e]
  · rw [if_neg e, if_neg (fun z => e z.symm), Int.zero_mul]
theorem mul_assoc {a b c : List (List Int)} {n p q w : Nat} (ha : Tb a n p) (hb : Tb b p q) (hc : Tb c q w) (hp : 0 < p) (hq : 0 < q) : mulM (mulM a b) c = mulM a (mulM b c) := tb_eq (mul_tb (mul_tb ha hb hp) hc hq) (mul_tb ha (mul_tb hb hc hq) hp) fun i j _ _ => by
  rw [gE_mul (mul_tb ha hb hp) hc hq, gE_mul ha (mul_tb hb hc hq) hp]
  have e1 : (sumN q fun k => gE (mulM a b) i k * gE c k j) = sumN q fun k => sumN p fun l => gE a i l * gE b l k * gE c k j := sumN_congr q fun k _ => by
    rw [gE_mul ha hb hp, sumN_mulR]
  have e2 : (sumN p fun l => gE a i l * gE (mulM b c) l j) = sumN p fun l => sumN q fun k => gE a i l * gE b l k * gE c k j := sumN_congr p fun l _ => by
    rw [gE_mul hb hc hq, ← sumN_mul]
    exact sumN_congr q fun k _ => (Int.mul_assoc _ _ _).symm
  rw [e1, e2, sumN_swap]
theorem InS.comb {l : List (List Int)} {c : Nat → Int} : ∀ n, n ≤ l.length → InS l fun j => sumN n fun k => c k * gE l k j
  | 0, _ => InS.zero
  | n + 1, h => (InS.comb n (by omega)).add ((InS.ix (show n < l.length by omega)).smul)
theorem sub_mul {a b : List (List Int)} {n p w : Nat} (ha : Tb a n p) (hb : Tb b p w) (hp : 0 < p) : Sub (mulM a b) b := Sub.ix fun i _ => (InS.comb (c := fun k => gE a i k) p (by rw [hb.1]; exact Nat.le_refl _)).congr fun j => (gE_mul ha hb hp i j).symm
end
end
section
/-! ### steps of lists -/
section
def Op.d : Op → D
  | .turn i => .tup [.str "turn", .int (i : Int)]
  | .swap i j => .tup [.str "swap", .int (i : Int), .int (j : Int)]
  | .add i j k => .tup [.str "add", .int (i : Int), .int (j : Int), .int k]
theorem Dd.op {n : Nat} {d : D} (h : Dd n d) : ∃ o : Op, o.ok n ∧ o.sm (2 ^ 100) ∧ d = o.d := by
  cases h with
  | @turn i h1 => exact ⟨.turn i, h1, True.intro, rfl⟩
  | @swap i j h1 h2 h3 => exact ⟨.swap i j, ⟨h1, h2, h3⟩, True.intro, rfl⟩
  | @add i j k h1 h2 h3 h4 => exact ⟨.add i j k, ⟨h1, h2, h3⟩, h4, rfl⟩
def ledF : Op → List (List Int) → List (List Int)
  | .turn i, m => m.set i ((m.getD i []).map fun x => 0 - x)
  | .swap i j, m => (m.set i (m.getD j [])).set j (m.getD i [])
  | .add i j k, m => m.set i ((List.range (m.getD i []).length).map fun c => gE m i c + k * gE m j c)
def undF : Op → List Int → List Int
  | .turn i, v => v.set i (0 - v.getD i 0)
  | .swap i j, v => (v.set i (v.getD j 0)).set j (v.getD i 0)
  | .add i j k, v => v.set j (v.getD j 0 - k * v.getD i 0)
theorem led_of {m : List (List Int)} {o : Op} (h : o.ok m.length) (hs : o.sm (2 ^ 100)) : Led m o.d (ledF o m) := by
  cases o with
  | turn i => exact .turn h
  | swap i j => exact .swap h.1 h.2.1 h.2.2
  | add i j k => exact .add h.1 h.2.1 h.2.2 hs
theorem und_of {n : Nat} {o : Op} (h : o.ok n) (hs : o.sm (2 ^ 100)) : Und n o.d (undF o) := by
  cases o with
  | turn i => exact .turn h
  | swap i j => exact .swap h.1 h.2.1 h.2.2
  | add i j k => exact .add h.1 h.2.1 h.2.2 hs
theorem led_tb {m : List (List Int)} {n w : Nat} {o : Op} (h : Tb m n w) (ho : o.ok n) : Tb (ledF o m) n w := by
  cases o with
  | turn i => exact ⟨by show (m.set i _).length = n; rw [List.length_set, h.1], set_wid h.2 (by rw [List.length_map]; exact h.2 _ (mem_getD (by rw [h.1]; exact ho)))⟩
  | swap i j => exact ⟨by show ((m.set i _).set j _).length = n; rw [List.length_set, List.length_set, h.1], set_wid (set_wid h.2 (h.2 _ (mem_getD (by rw [h.1]; exact ho.2.1)))) (h.2 _ (mem_getD (by rw [h.1]; exact ho.1)))⟩
  | add i j k => exact ⟨by show (m.set i _).length = n; rw [List.length_set, h.1], set_wid h.2 (by rw [List.length_map, List.length_range]; exact h.2 _ (mem_getD (by rw [h.1]; exact ho.1)))⟩
theorem und_len {o : Op} {v : List Int} : (undF o v).length = v.length := by
  cases o <;> simp only [undF, List.length_set]
theorem und_tb {m : List (List Int)} {n w : Nat} {o : Op} (h : Tb m n w) : Tb (m.map (undF o)) n w := ⟨by rw [List.length_map, h.1], fun q hq => by
  obtain ⟨r, hr, rfl⟩ := List.mem_map.mp hq
  rw [und_len, h.2 r hr]⟩
theorem gE_led {m : List (List Int)} {n w : Nat} {o : Op} (h : Tb m n w) (ho : o.ok n) : gE (ledF o m) = o.act (gE m) := by
  funext a b
  cases o with
  | turn i =>
    show gE (m.set i _) a b = if a = i then -gE m i b else gE m a b
    rw [gE_set (by rw [h.1]; exact ho)]
    by_cases e : a = i
    · rw [if_pos e, if_pos e, show (fun x : Int => 0 - x) = fun x => -x from funext fun x => Int.zero_sub x, getD_map_neg]
      rfl
    · rw [if_neg e, if_neg e]
  | swap i j => exact gE_swap (by rw [h.1]; exact ho.1) (by rw [h.1]; exact ho.2.1)
  | add i j k =>
    show gE (m.set i _) a b = if a = i then gE m i b + k * gE m j b else gE m a b
    have hi : i < m.length := by rw [h.1]; exact ho.1
    rw [gE_set hi]
    by_cases e : a = i
    · rw [if_pos e, if_pos e]
      by_cases hb : b < w
      · rw [range_get (by rw [h.2 _ (mem_getD hi)]; exact hb)]
      · rw [range_out (by rw [h.2 _ (mem_getD hi)]; omega), gE_out h (i := i) (j := b) (by omega), gE_out h (i := j) (j := b) (by omega), Int.mul_zero]
        rfl
    · rw [if_neg e, if_neg e]
theorem gE_map {m : List (List Int)} {F : List Int → List Int} (hF : F [] = []) (x k : Nat) : gE (m.map F) x k = (F (m.getD x [])).getD k 0 := by
  unfold gE
  congr 1
  rw [List.getD_eq_getElem?_getD, List.getElem?_map, List.getD_eq_getElem?_getD]
  cases m[x]? with
  | none => exact hF.symm
  | some v => rfl
theorem gE_und {m : List (List Int)} {n p : Nat} {o : Op} (h : Tb m p n) (ho : o.ok n) : (fun k x => gE (m.map (undF o)) x k) = o.dual.act fun k x => gE m x k := by
  funext k x
  by_cases hx : x < p
  · have hv : (m.getD x []).length = n := h.2 _ (mem_getD (by rw [h.1]; exact hx))
    rw [gE_map (by cases o <;> rfl)]
    cases o with
    | turn i =>
      have hi : i < n := ho
      show ((m.getD x []).set i (0 - (m.getD x []).getD i 0)).getD k 0 = if k = i then -gE m x i else gE m x k
      rw [getD_set (by rw [hv]; exact hi), Int.zero_sub]
      rfl
    | swap i j =>
      obtain ⟨hi, hj, _⟩ := ho
      show (((m.getD x []).set i ((m.getD x []).getD j 0)).set j ((m.getD x []).getD i 0)).getD k 0 = if k = j then gE m x i else if k = i then gE m x j else gE m x k
      rw [getD_set (by rw [List.length_set, hv]; exact hj), getD_set (by rw [hv]; exact hi)]
      rfl
    | add i j κ =>
      obtain ⟨hi, hj, _⟩ := ho
      show ((m.getD x []).set j ((m.getD x []).getD j 0 - κ * (m.getD x []).getD i 0)).getD k 0 = if k = j then gE m x j + -κ * gE m x i else gE m x k
      rw [getD_set (by rw [hv]; exact hj), Int.sub_eq_add_neg, Int.neg_mul]
      rfl
  · have z : ∀ k, gE m x k = 0 := fun k => gE_out h (by omega)
    rw [gE_out (und_tb h) (by omega)]
    cases o with
    | turn i => show 0 = if k = i then -gE m x i else gE m x k; rw [z, z]; split <;> rfl
    | swap i j => show 0 = if k = j then gE m x i else if k = i then gE m x j else gE m x k; rw [z, z, z]; split <;> first | rfl | (split <;> rfl)
    | add i j κ => show 0 = if k = j then gE m x j + -κ * gE m x i else gE m x k; rw [z, z, z]; split <;> simp
def Bn (m : List (List Int)) (B : Nat) : Prop := ∀ i j, (gE m i j).natAbs ≤ B
theorem Bn.mem {m : List (List Int)} {B : Nat} (h : Bn m B) : ∀ q ∈ m, ∀ x ∈ q, x.natAbs ≤ B := fun q hq x hx => by
  obtain ⟨i, hi, rfl⟩ := List.getElem_of_mem hq
  obtain ⟨j, hj, rfl⟩ := List.getElem_of_mem hx
  have := h i j
  unfold gE at this
  rw [List.getD_eq_getElem?_getD (l := m), List.getElem?_eq_getElem hi, List.getD_eq_getElem?_getD] at this
  simp only [Option.getD_some] at this
  rw [List.getElem?_eq_getElem hj] at this
  exact this
theorem Bn.bd {m : List (List Int)} {B : Nat} (h : Bn m B) (hB : B ≤ 2 ^ 200) : Bd m := Bd.of h.mem hB
theorem act_bd {o : Op} {R : Rw} {B K : Nat} (hs : o.sm K) (h : ∀ a c, (R a c).natAbs ≤ B) (a c : Nat) : (o.act R a c).natAbs ≤ B * (K + 1) := by
  have one : ∀ x : Int, x.natAbs ≤ B → x.natAbs ≤ B * (K + 1) := fun x hx => Nat.le_trans hx (Nat.le_mul_of_pos_right _ (Nat.succ_pos K))
  cases o with
  | turn i =>
    show (if a = i then -R i c else R a c).natAbs ≤ _
    split
    · rw [Int.natAbs_neg]; exact one _ (h i c)
    · exact one _ (h a c)
  | swap i j =>
    show (if a = j then R i c else if a = i then R j c else R a c).natAbs ≤ _
    split
    · exact one _ (h i c)
    · split
      · exact one _ (h j c)
      · exact one _ (h a c)
  | add i j k =>
    show (if a = i then R i c + k * R j c else R a c).natAbs ≤ _
    split
    · have h1 := h i c
      have h2 : (k * R j c).natAbs ≤ K * B := by rw [Int.natAbs_mul]; exact Nat.mul_le_mul hs (h j c)
      have h3 := Int.natAbs_add_le (R i c) (k * R j c)
      rw [Nat.mul_add, Nat.mul_one, Nat.mul_comm B K]
      omega
    · exact one _ (h a c)
theorem Op.sm_dual {o : Op} {K : Nat} (h : o.sm K) : o.dual.sm K := by
  cases o with
  | turn i => exact True.intro
  | swap i j => exact True.intro
  | add i j k =>
    show (-k).natAbs ≤ K
    rw [Int.natAbs_neg]
    exact h
theorem led_bn {m : List (List Int)} {n w B K : Nat} {o : Op} (h : Tb m n w) (ho : o.ok n) (hs : o.sm K) (hb : Bn m B) : Bn (ledF o m) (B * (K + 1)) := fun i j => by
  rw [gE_led h ho]
  exact act_bd hs hb i j
theorem und_bn {m : List (List Int)} {n p B K : Nat} {o : Op} (h : Tb m p n) (ho : o.ok n) (hs : o.sm K) (hb : Bn m B) : Bn (m.map (undF o)) (B * (K + 1)) := fun i j => by
  have e := congrFun (congrFun (gE_und h ho) j) i
  have e2 : gE (m.map (undF o)) i j = o.dual.act (fun k x => gE m x k) j i := e
  rw [e2]
  exact act_bd (Op.sm_dual hs) (fun a c => hb c a) j i
/-! ### pairs of ways -/
structure Pr (u v : List (List Int)) (n : Nat) : Prop where
  tu : Tb u n n
  tv : Tb v n n
  uv : mulM u v = unitM n
  vu : mulM v u = unitM n
theorem Pr.one {n : Nat} (hn : 0 < n) : Pr (unitM n) (unitM n) n := ⟨unit_tb, unit_tb, mul_unit unit_tb hn, mul_unit unit_tb hn⟩
theorem Pr.sym {u v : List (List Int)} {n : Nat} (h : Pr u v n) : Pr v u n := ⟨h.tv, h.tu, h.vu, h.uv⟩
theorem ip_mul {a b : List (List Int)} {n p w : Nat} (ha : Tb a n p) (hb : Tb b p w) (hp : 0 < p) (i j : Nat) : gE (mulM a b) i j = ip p (gE a i) (fun k => gE b k j) := gE_mul ha hb hp i j
/-- a step of v's rows, undone in u's columns -/
theorem Pr.step {u v : List (List Int)} {n : Nat} {o : Op} (h : Pr u v n) (hn : 0 < n) (ho : o.ok n) : Pr (u.map (undF o)) (ledF o v) n := by
  have t1 : Tb (u.map (undF o)) n n := und_tb h.tu
  have t2 : Tb (ledF o v) n n := led_tb h.tv ho
  have eu : ∀ x k, gE (u.map (undF o)) x k = o.dual.act (fun k x => gE u x k) k x := fun x k => congrFun (congrFun (gE_und h.tu ho) k) x
  refine ⟨t1, t2, tb_eq (mul_tb t1 t2 hn) unit_tb fun i j hi hj => ?_, tb_eq (mul_tb t2 t1 hn) unit_tb fun i j hi hj => ?_⟩
  · rw [gE_mul t1 t2 hn, ← h.uv, gE_mul h.tu h.tv hn, ← sumN_congr n fun k _ => Int.mul_comm (gE v k j) (gE u i k), ← act_one ho (gE v) (fun k x => gE u x k) i j]
    refine sumN_congr n fun k _ => ?_
    rw [eu, gE_led h.tv ho, Int.mul_comm]
  · rw [ip_mul t2 t1 hn, gE_unit, if_pos ⟨hi, hj⟩]
    have e1 : (fun k => gE (u.map (undF o)) k j) = o.dual.act (fun k x => gE u x k) j := by
      funext k
      exact eu k j
    rw [e1, gE_led h.tv ho]
    refine act_dlt ho (fun a b ha hb => ?_) i j hi hj
    have := ip_mul h.tv h.tu hn a b
    rw [h.vu, gE_unit, if_pos ⟨ha, hb⟩] at this
    exact this.symm
/-- steps that leave h -/
theorem led_mul {o : Op} {u a : List (List Int)} {n w : Nat} (hu : Tb u n n) (ha : Tb a n w) (hn : 0 < n) (ho : o.ok n) : mulM (ledF o u) a = ledF o (mulM u a) := tb_eq (mul_tb (led_tb hu ho) ha hn) (led_tb (mul_tb hu ha hn) ho) fun i j hi hj => by
  rw [ip_mul (led_tb hu ho) ha hn, gE_led hu ho, act_row, gE_led (mul_tb hu ha hn) ho]
  have e : ∀ b, ip n (gE u b) (fun k => gE a k j) = gE (mulM u a) b j := fun b => (ip_mul hu ha hn b j).symm
  cases o with
  | turn i' => show (if i = i' then -ip n (gE u i') _ else ip n (gE u i) _) = if i = i' then -gE (mulM u a) i' j else gE (mulM u a) i j; rw [e, e]
  | swap i' j' => show (if i = j' then ip n (gE u i') _ else if i = i' then ip n (gE u j') _ else ip n (gE u i) _) = if i = j' then gE (mulM u a) i' j else if i = i' then gE (mulM u a) j' j else gE (mulM u a) i j; rw [e, e, e]
  | add i' j' k => show (if i = i' then ip n (gE u i') _ + k * ip n (gE u j') _ else ip n (gE u i) _) = if i = i' then gE (mulM u a) i' j + k * gE (mulM u a) j' j else gE (mulM u a) i j; rw [e, e, e]
theorem und_mul {o : Op} {v h : List (List Int)} {n w p : Nat} (hv : Tb v p n) (hh : Tb h n w) (hn : 0 < n) (ho : o.ok n) : mulM (v.map (undF o)) (ledF o h) = mulM v h := tb_eq (mul_tb (und_tb hv) (led_tb hh ho) hn) (mul_tb hv hh hn) fun i j hi hj => by
  rw [gE_mul (und_tb hv) (led_tb hh ho) hn, gE_mul hv hh hn, ← sumN_congr n fun k _ => Int.mul_comm (gE h k j) (gE v i k), ← act_one ho (gE h) (fun k x => gE v x k) i j]
  refine sumN_congr n fun k _ => ?_
  have eu : gE (v.map (undF o)) i k = o.dual.act (fun k x => gE v x k) k i := congrFun (congrFun (gE_und hv ho) k) i
  rw [eu, gE_led hh ho, Int.mul_comm]
end
end
section
/-! ### what the program reaches -/
section
structure PI (a : List (List Int)) (n : Nat) (s : WS) : Prop where
  p1 : ∀ i j, ip n (gE s.t i) (fun k => gE a k j) = gE s.r i j
  p2 : ∀ i j, sumN n (fun k => gE s.r k j * gE s.b k i) = gE a i j
  p3 : ∀ i j, i < n → j < n → ip n (gE s.t i) (gE s.b j) = dlt i j
theorem PI.step {a : List (List Int)} {n : Nat} {s s' : WS} {o : Op} (h : PI a n s) (ho : o.ok n) (er : gE s'.r = o.act (gE s.r)) (et : gE s'.t = o.act (gE s.t)) (eb : gE s'.b = o.dual.act (gE s.b)) : PI a n s' := by
  refine ⟨fun i j => ?_, fun i j => ?_, fun i j hi hj => ?_⟩
  · rw [et, er, act_row]
    have e := fun b => h.p1 b j
    cases o with
    | turn i' => show (if i = i' then -ip n (gE s.t i') _ else ip n (gE s.t i) _) = if i = i' then -gE s.r i' j else gE s.r i j; rw [e, e]
    | swap i' j' => show (if i = j' then ip n (gE s.t i') _ else if i = i' then ip n (gE s.t j') _ else ip n (gE s.t i) _) = if i = j' then gE s.r i' j else if i = i' then gE s.r j' j else gE s.r i j; rw [e, e, e]
    | add i' j' k => show (if i = i' then ip n (gE s.t i') _ + k * ip n (gE s.t j') _ else ip n (gE s.t i) _) = if i = i' then gE s.r i' j + k * gE s.r j' j else gE s.r i j; rw [e, e, e]
  · rw [er, eb, act_one ho]
    exact h.p2 i j
  · rw [et, eb]
    exact act_dlt ho h.p3 i j hi hj
theorem take_act {l : List (List Int)} {i j u : Nat} {k : Int} (hi : i < l.length) (hj : j < l.length) (hu : ∀ q ∈ l, q.length = u) : gE (takeL l i k j) = (Op.add i j (-k)).act (gE l) := by
  funext a b
  rw [gE_take hi hj hu]
  show _ = if a = i then gE l i b + -k * gE l j b else gE l a b
  rw [Int.sub_eq_add_neg, Int.neg_mul]
theorem Reach.pi {n w : Nat} {a : List (List Int)} {s : WS} (h : Reach n w (wsOf a) s) (ha : Tb a n w) (hn : 0 < n) : PI a n s := by
  induction h with
  | refl =>
    have hl := ha.1
    refine ⟨fun i j => ?_, fun i j => ?_, fun i j hi hj => ?_⟩
    · show ip n (gE (unitM a.length) i) _ = gE a i j
      rw [hl, ← ip_mul unit_tb ha hn, mul_unit ha hn]
    · show (sumN n fun k => gE a k j * gE (unitM a.length) k i) = gE a i j
      rw [hl]
      have e : gE a i j = gE (mulM (unitM n) a) i j := by rw [mul_unit ha hn]
      rw [e, gE_mul unit_tb ha hn]
      refine sumN_congr n fun k hk => ?_
      rw [Int.mul_comm, gE_unit, gE_unit, dlt_comm]
      congr 1
      by_cases h1 : k < n ∧ i < n
      · rw [if_pos h1, if_pos ⟨h1.2, h1.1⟩]
      · rw [if_neg h1, if_neg (fun z => h1 ⟨z.2, z.1⟩)]
    · show ip n (gE (unitM a.length) i) (gE (unitM a.length) j) = dlt i j
      rw [hl]
      have e : (gE (unitM n) j) = fun k => gE (flip (unitM n)) k j := by
        funext k
        rw [gE_flip unit_tb hn]
      rw [e, ← ip_mul unit_tb (flip_tb unit_tb hn) hn, mul_unit (flip_tb unit_tb hn) hn, gE_flip unit_tb hn, gE_unit, if_pos ⟨hj, hi⟩, dlt_comm]
  | @swap s i j _ hw hi hj hij ih =>
    refine ih.step (o := .swap i j) ⟨hi, hj, fun z => hij z.symm⟩ ?_ ?_ ?_
    · funext x y; exact gE_swap (by rw [hw.r]; exact hi) (by rw [hw.r]; exact hj)
    · funext x y; exact gE_swap (by rw [hw.t]; exact hi) (by rw [hw.t]; exact hj)
    · funext x y; exact gE_swap (by rw [hw.b]; exact hi) (by rw [hw.b]; exact hj)
  | @turn s i _ hw hi ih =>
    refine ih.step (o := .turn i) hi ?_ ?_ ?_
    · funext x y; exact gE_neg (by rw [hw.r]; exact hi)
    · funext x y; exact gE_neg (by rw [hw.t]; exact hi)
    · funext x y; exact gE_neg (by rw [hw.b]; exact hi)
  | @take s i j k _ hw hi hj hij ih =>
    refine ih.step (o := .add i j (-k)) ⟨hi, hj, fun z => hij z.symm⟩ ?_ ?_ ?_
    · exact take_act (by rw [hw.r]; exact hi) (by rw [hw.r]; exact hj) hw.rw
    · exact take_act (by rw [hw.t]; exact hi) (by rw [hw.t]; exact hj) hw.tw
    · exact take_act (by rw [hw.b]; exact hj) (by rw [hw.b]; exact hi) hw.bw
theorem Mx.tb {a : List (List Int)} (h : Mx a) : Tb a a.length (wd a) := ⟨rfl, h.rect⟩
/-- a table in the form with its ways -/
structure Pp (a H U V : List (List Int)) : Prop where
  th : Tb H a.length (wd a)
  tu : Tb U a.length a.length
  tv : Tb V a.length a.length
  fm : ∃ r pc, HF H (wd a) r pc
  s1 : Sub H a
  s2 : Sub a H
  eq : Eqs a H U V
  bh : Big H
  bu : Big U
  bv : Big V
theorem HP.pp {a : List (List Int)} {r : D} (h : HP a r) : ∃ H U V, r = .tup [tM H, tM U, tM V] ∧ Pp a H U V := by
  obtain ⟨mm, hm, _, C, rfl⟩ := h
  generalize hw a mm (wd a) = u at C
  have hn : 0 < a.length := hm.l1
  obtain ⟨pc, e⟩ := C.ech
  obtain ⟨s1, s2⟩ := C.rch.span
  have pi := C.rch.pi hm.tb hn
  have tr : Tb u.1.r a.length (wd a) := ⟨C.wf.r, C.wf.rw⟩
  have tt : Tb u.1.t a.length a.length := ⟨C.wf.t, C.wf.tw⟩
  have tb : Tb u.1.b a.length a.length := ⟨C.wf.b, C.wf.bw⟩
  have tf := flip_tb tb hn
  have hb := bigE_nb (wd a) hm.w8
  have up : ∀ {x : Nat}, x ≤ bigE → 2 ^ x ≤ 2 ^ bigE := fun h => Nat.pow_le_pow_right (by decide) h
  refine ⟨_, _, _, rfl, tr, tt, tf, ⟨u.2, pc, ⟨by rw [C.wf.r]; exact C.tp, C.wf.rw, e.lt, e.inc, e.left, e.pos, e.abv, fun i hi j => ?_⟩⟩, s1, s2, ⟨?_, ?_, ?_⟩, ?_, ?_, ?_⟩
  · by_cases hj : j < wd a
    · exact e.low i hi j hj
    · exact gE_wide C.wf.rw (by omega)
  · exact tb_eq (mul_tb tt hm.tb hn) tr fun i j _ _ => by rw [ip_mul tt hm.tb hn]; exact pi.p1 i j
  · refine tb_eq (mul_tb tf tr hn) hm.tb fun i j _ _ => ?_
    rw [gE_mul tf tr hn, ← pi.p2 i j]
    refine sumN_congr _ fun k _ => ?_
    rw [gE_flip tb hn, Int.mul_comm]
  · refine tb_eq (mul_tb tt tf hn) unit_tb fun i j hi hj => ?_
    rw [ip_mul tt tf hn, gE_unit, if_pos ⟨hi, hj⟩, ← pi.p3 i j hi hj]
    congr 1
    funext k
    exact gE_flip tb hn k j
  · exact Bn.mem fun i j => Nat.le_trans (C.ab i j) (up hb.2)
  · exact Bn.mem fun i j => Nat.le_trans (C.zb i j).1 (up hb.1)
  · exact Bn.mem fun i j => by
      rw [gE_flip tb hn]
      exact Nat.le_trans (C.zb j i).2 (up hb.1)
/-! ### the form, as the program looks -/
theorem HF.inB {h : List (List Int)} {w r : Nat} {pc : Nat → Nat} (f : HF h w r pc) (hn : h ≠ []) : Ab.inB h = true := by
  have hw := f.wdh hn
  have hq : ∀ q ∈ h, q.length = wd h := fun q hq => by rw [hw]; exact f.wid q hq
  refine (in_iff hq).mpr fun i hi => ?_
  rw [hw]
  by_cases hr : i < r
  · have h1 := f.lt i hr
    rw [f.hd hr]
    refine ⟨fun z => by omega, fun _ => ⟨f.pos i hr, fun k hk => ?_⟩⟩
    rw [f.hd (by omega : k < r)]
    exact ⟨f.inc k i hk hr, f.abv k i hk hr⟩
  · refine ⟨fun _ k hk hk2 => f.hd_low (by omega) hk2, fun z => ?_⟩
    rw [f.hd_low (by omega) hi] at z
    omega
theorem in_hf {h : List (List Int)} {w : Nat} (hq : ∀ q ∈ h, q.length = w) (hn : h ≠ []) (hi : Ab.inB h = true) : ∃ r pc, HF h w r pc := by
  have hw : wd h = w := by
    cases h with
    | nil => exact absurd rfl hn
    | cons q l => exact hq q List.mem_cons_self
  have hq' : ∀ q ∈ h, q.length = wd h := fun q z => by rw [hw]; exact hq q z
  have lk := (in_iff hq').mp hi
  obtain ⟨r, hr1, hr2, hr3⟩ := least (P := fun i => i = h.length ∨ hd h i = wd h) h.length (.inl rfl)
  have lt : ∀ i, i < r → hd h i < wd h := fun i hi => by
    have := hr3 i hi
    rcases hd_or hq' (show i < h.length by omega) with z | z
    · exact absurd (.inr z.2) this
    · exact z.2
  have dn : ∀ i, i < r → leadF (h.getD i []) = some (hd h i) := fun i hi => by
    rcases hd_or hq' (show i < h.length by omega) with z | z
    · have := lt i hi; omega
    · exact z.1
  refine ⟨r, hd h, hr1, hq, fun i hi => by rw [← hw]; exact lt i hi, fun i j hij hj => ((lk j (by omega)).2 (lt j hj)).2 i hij |>.1, fun i hi j hj => (leadF_lt (dn i hi)).2.2 j hj, fun i hi => ((lk i (by omega)).2 (lt i hi)).1, fun k i hki hi => (((lk i (by omega)).2 (lt i hi)).2 k hki).2, fun i hi j => ?_⟩
  by_cases hl : i < h.length
  · rcases hr2 with z | z
    · omega
    · have hz := (lk r (by omega)).1 z i hi hl
      rcases hd_or hq' hl with y | y
      · exact leadF_none y.1 j
      · omega
  · exact gE_out (n := h.length) (w := w) ⟨rfl, hq⟩ (by omega)
theorem paper_iff {a h H U V : List (List Int)} {n w r : Nat} {pc : Nat → Nat} (hn : 0 < n) (ta : Tb a n w) (f : HF h w r pc) (hl : h.length = n) (s1 : Sub h a) (s2 : Sub a h) (tH : Tb H n w) (tU : Tb U n n) (tV : Tb V n n) : (Ab.inB H = true ∧ Eqs a H U V) ↔ (H = h ∧ Eqs a h U V) := by
  have ne : ∀ {m : List (List Int)}, m.length = n → m ≠ [] := fun h e => by rw [e] at h; exact absurd h (by simp; omega)
  constructor
  · rintro ⟨h1, h2⟩
    obtain ⟨r', pc', f'⟩ := in_hf tH.2 (ne tH.1) h1
    have t1 : Sub H a := by have := sub_mul tU ta hn; rwa [h2.1] at this
    have t2 : Sub a H := by have := sub_mul tV tH hn; rwa [h2.2.1] at this
    have e : H = h := f'.uniq f (by rw [tH.1, hl]) (t1.trans s2) (s1.trans t2)
    exact ⟨e, e ▸ h2⟩
  · rintro ⟨rfl, h2⟩
    exact ⟨f.inB (ne tH.1), h2⟩
end
end
section
section
variable {g : Pg}
open Classical in
noncomputable def showsB (A h : List (List Int)) (d : D) : Bool := decide (∃ H U V, Shape A d H U V ∧ H = h ∧ Eqs A h U V)
open Classical in
theorem shows_no {A h : List (List Int)} {d : D} (hh : ∀ H U V, ¬ Shape A d H U V) : showsB A h d = false := decide_eq_false fun ⟨H, U, V, h1, _⟩ => hh H U V h1
open Classical in
theorem shows_yes {A h : List (List Int)} {d : D} {H U V : List (List Int)} (hs : Shape A d H U V) : showsB A h d = (decide (H = h) && (decide (mulM U A = h) && (decide (mulM V h = A) && decide (mulM U V = unitM A.length)))) := by
  have e : showsB A h d = decide (H = h ∧ Eqs A h U V) := by
    unfold showsB
    refine decide_eq_decide.mpr ⟨fun ⟨H', U', V', h1, h2⟩ => ?_, fun h2 => ⟨H, U, V, hs, h2⟩⟩
    obtain ⟨rfl, rfl, rfl⟩ := shape_inj hs h1
    exact h2
  rw [e, Bool.eq_iff_iff]
  simp only [decide_eq_true_eq, Bool.and_eq_true]
  exact Iff.rfl
theorem ok_law_shows (W : Wd g) : FN g "_law_shows" 2 (P3 fun d e f r => ∃ (a h : List (List Int)) (n w : Nat), d = lM a ∧ e = lM h ∧ Tb a n w ∧ Tb h n w ∧ (1 ≤ n ∧ n ≤ 8) ∧ (1 ≤ w ∧ w ≤ 8) ∧ Big a ∧ Big h ∧ Lit a f ∧ r = .bl (showsB a h f)) := by
  refine FN.mk3 W.t_law_shows c_law_shows (fun _ _ _ _ _ _ us hl => match us, hl with | [_, _, _], _ => rfl) (fun d e f r hh => ?_)
  obtain ⟨a, h, n, w, rfl, rfl, ta, th, hn, hw, ba, bh, hL, rfl⟩ := hh
  have tal := ta.1
  have thl := th.1
  have hne : a ≠ [] := fun z => by rw [z] at tal; simp at tal; omega
  have hwa : wd a = w := tb_wd ta (by omega)
  have hwh : wd h = w := tb_wd th (by omega)
  have ha0 : ixD (lM a) ((0 : Nat) : Int) = some (lV (a.getD 0 [])) := ix_lM (by omega)
  have hal : (a.getD 0 []).length = w := ta.2 _ (mem_getD (by omega))
  let E : List O := [.dat (lM a), .dat (lM h), .dat f, .dat (.int (n : Int)), .no]
  let C := mkC g n_law_shows s_law_shows 1
  let sb : List Stmt := defBody s_law_shows
  have start : ∀ {r : Out}, SB C (sb.drop 1) E [] r → SB C sb (pad n_law_shows [.dat (lM a), .dat (lM h), .dat f]) [] r := fun {r} hh => SB.cons (E1 := E) (M1 := []) (ST.set 3 (EV.to (EV.len (EV.nm 0) len_lM W.b.len) (by rw [tal])) c_law_shows.nd) hh
  rcases tup_or f with ⟨ds, rfl⟩ | hf
  · rcases three_or ds with ⟨x, y, z, rfl⟩ | h3
    · have x0 : ixD (.tup [x, y, z]) ((0 : Nat) : Int) = some x := atI_nat rfl
      have x1 : ixD (.tup [x, y, z]) ((1 : Nat) : Int) = some y := atI_nat rfl
      have x2 : ixD (.tup [x, y, z]) ((2 : Nat) : Int) = some z := atI_nat rfl
      refine start (SB.guard (k := !tabB n w x) (ET.to (EW.et (EW.or (k1 := false) (k2 := !tabB n w x) (ET.to (ET.not (ET.val (EV.isTuple (EV.nm 2) W.b.isinstance W.b.tuple))) rfl) (fun _ => EW.or (k1 := false) (k2 := !tabB n w x) (ET.to (ET.cm (EV.len (EV.nm 2) rfl W.b.len) EV.int CS.neI) rfl) (fun _ => EW.or1 (ET.not (ET.val (EV.c3 (ok_law_sized W) (EV.ix (EV.nm 2) EV.int x0) (EV.nm 3) (EV.to (EV.len (EV.ix (EV.nm 0) EV.int ha0) len_lV W.b.len) (by rw [hal])) ⟨n, w, rfl, rfl, rfl⟩)))) (fun z => nomatch z)) (fun z => nomatch z))) (by first | rfl | rw [Bool.false_or, Bool.false_or])) (fun hx => ?_) (fun hx => ?_))
      · rw [shows_no fun H U V hs => by
          have := D.tup.inj hs.1
          injection this with e1 _
          have t := hs.2.1
          rw [tal, hwa] at t
          rw [e1, tM_tab t] at hx
          cases hx]
        exact SB.one (ST.ret EV.bl)
      · have hx' : tabB n w x = true := by simpa using hx
        obtain ⟨H, rfl, tH⟩ := tab_tM hx'
        cases hy : tabB n n y with
        | false =>
          rw [shows_no fun H' U V hs => by
            have := D.tup.inj hs.1
            injection this with _ e1
            injection e1 with e2 _
            have t := hs.2.2.1
            rw [tal] at t
            rw [e2, tM_tab t] at hy
            cases hy]
          exact SB.stop (ST.yes (ET.to (EW.et (EW.or (k1 := true) (k2 := true) (ET.to (ET.not (ET.val (EV.c3 (ok_law_sized W) (EV.ix (EV.nm 2) EV.int x1) (EV.nm 3) (EV.nm 3) ⟨n, n, rfl, rfl, rfl⟩))) (by rw [hy]; rfl)) (fun z => nomatch z) (fun _ => rfl))) rfl) (SB.one (ST.ret EV.bl)))
        | true =>
          obtain ⟨U, rfl, tU⟩ := tab_tM hy
          cases hz : tabB n n z with
          | false =>
            rw [shows_no fun H' U' V hs => by
              have := D.tup.inj hs.1
              injection this with _ e1
              injection e1 with _ e2
              injection e2 with e3 _
              have t := hs.2.2.2
              rw [tal] at t
              rw [e3, tM_tab t] at hz
              cases hz]
            exact SB.stop (ST.yes (ET.to (EW.et (EW.or (k1 := false) (k2 := true) (ET.to (ET.not (ET.val (EV.c3 (ok_law_sized W) (EV.ix (EV.nm 2) EV.int x1) (EV.nm 3) (EV.nm 3) ⟨n, n, rfl, rfl, rfl⟩))) (by rw [hy]; rfl)) (fun _ => EW.or (k1 := true) (k2 := true) (ET.to (ET.not (ET.val (EV.c3 (ok_law_sized W) (EV.ix (EV.nm 2) EV.int x2) (EV.nm 3) (EV.nm 3) ⟨n, n, rfl, rfl, rfl⟩))) (by rw [hz]; rfl)) (fun z => nomatch z) (fun _ => rfl)) (fun z => nomatch z))) rfl) (SB.one (ST.ret EV.bl)))
          | true =>
            obtain ⟨V, rfl, tV⟩ := tab_tM hz
            have hs : Shape a (.tup [tM H, tM U, tM V]) H U V := ⟨rfl, by rw [tal, hwa]; exact tH, by rw [tal]; exact tU, by rw [tal]; exact tV⟩
            obtain ⟨bH, bU, bV⟩ := hL H U V hs
            rw [shows_yes hs]
            have big : ∀ k : Nat, k ≤ 8 → k < 1000 := fun k hk => by omega
            have nz : ∀ {m : List (List Int)}, m.length = n → m ≠ [] := fun e z => by rw [z] at e; simp at e; omega
            refine SB.guard (k := !decide (H = h)) (ET.to (EW.et (EW.or (k1 := false) (k2 := !decide (H = h)) (ET.to (ET.not (ET.val (EV.c3 (ok_law_sized W) (EV.ix (EV.nm 2) EV.int x1) (EV.nm 3) (EV.nm 3) ⟨n, n, rfl, rfl, rfl⟩))) (by rw [hy]; rfl)) (fun _ => EW.or (k1 := false) (k2 := !decide (H = h)) (ET.to (ET.not (ET.val (EV.c3 (ok_law_sized W) (EV.ix (EV.nm 2) EV.int x2) (EV.nm 3) (EV.nm 3) ⟨n, n, rfl, rfl, rfl⟩))) (by rw [hz]; rfl)) (fun _ => EW.or1 (ET.cm (EV.ix (EV.nm 2) EV.int x0) (EV.c1 (ok_law_rows W) (EV.nm 1) ⟨h, sq_l, by omega, rfl⟩) CS.neM)) (fun z => nomatch z)) (fun z => nomatch z))) (by first | rfl | rw [Bool.false_or, Bool.false_or])) (fun hH => ?_) (fun hH => ?_)
            · have hH' : decide (H = h) = false := by simpa using hH
              rw [hH', Bool.false_and]
              exact SB.one (ST.ret EV.bl)
            · have hH' : decide (H = h) = true := by simpa using hH
              rw [hH', Bool.true_and]
              have ee : ((!decide (mulM U a = h)) || (!decide (mulM V h = a))) = !(decide (mulM U a = h) && decide (mulM V h = a)) := (Bool.not_and _ _).symm
              refine SB.guard (k := !(decide (mulM U a = h) && decide (mulM V h = a))) (ET.to (EW.et (EW.or (k1 := !decide (mulM U a = h)) (k2 := !decide (mulM V h = a)) (ET.cm (EV.c2 (ok_law_times W) (EV.ix (EV.nm 2) EV.int x1) (EV.nm 0) ⟨U, a, sq_t, sq_l, hne, fun q hq => by rw [tU.2 q hq, tal], fun q hq => by rw [ta.2 q hq, hwa], by rw [tU.1]; exact big n hn.2, by rw [tal]; exact big n hn.2, by rw [hwa]; exact big w hw.2, bU.mul ba, rfl⟩) (LC.ev (LC.lM 4 (xs := h) (f := lV) (g := lV) (own := [("line", 4)]) (by rfl) c_law_shows.nd rfl (EV.nm 1) rfl (Nat.le_refl _) OkM.refl (by omega) (fun q hq M => EV.list (EV.nm 4) rfl W.b.list))) CS.neN) (fun _ => EW.or1 (ET.cm (EV.c2 (ok_law_times W) (EV.ix (EV.nm 2) EV.int x2) (EV.nm 1) ⟨V, h, sq_t, sq_l, nz thl, fun q hq => by rw [tV.2 q hq, thl], fun q hq => by rw [th.2 q hq, hwh], by rw [tV.1]; exact big n hn.2, by rw [thl]; exact big n hn.2, by rw [hwh]; exact big w hw.2, bV.mul bh, rfl⟩) (LC.ev (LC.lM 4 (xs := a) (f := lV) (g := lV) (own := [("line", 4)]) (by rfl) c_law_shows.nd rfl (EV.nm 0) rfl (Nat.le_refl _) OkM.refl (by omega) (fun q hq M => EV.list (EV.nm 4) rfl W.b.list))) CS.neN)) (fun _ => rfl))) ee) (fun hU => ?_) (fun hU => ?_)
              · have hU' : (decide (mulM U a = h) && decide (mulM V h = a)) = false := by
                  generalize (decide (mulM U a = h) && decide (mulM V h = a)) = b at hU ⊢
                  cases b <;> first | rfl | cases hU
                rw [← Bool.and_assoc, hU', Bool.false_and]
                exact SB.one (ST.ret EV.bl)
              · have hU' : (decide (mulM U a = h) && decide (mulM V h = a)) = true := by simpa using hU
                rw [← Bool.and_assoc, hU', Bool.true_and, tal]
                have hwV : wd V = n := tb_wd tV (by omega)
                exact SB.one (ST.ret (EV.cm (EV.c2 (ok_law_times W) (EV.ix (EV.nm 2) EV.int x1) (EV.ix (EV.nm 2) EV.int x2) ⟨U, V, sq_t, sq_t, nz tV.1, fun q hq => by rw [tU.2 q hq, tV.1], fun q hq => by rw [tV.2 q hq, hwV], by rw [tU.1]; exact big n hn.2, by rw [tV.1]; exact big n hn.2, by rw [hwV]; exact big n hn.2, bU.mul bV, rfl⟩) (EV.c1 (ok_law_unit W) (EV.nm 3) ⟨n, big n hn.2, rfl, rfl⟩) CS.eqN))
    · rw [shows_no fun H U V hs => by
        have := D.tup.inj hs.1
        rw [this] at h3
        exact h3 rfl]
      exact start (SB.stop (ST.yes (ET.to (EW.et (EW.or (k1 := false) (k2 := true) (ET.to (ET.not (ET.val (EV.isTuple (EV.nm 2) W.b.isinstance W.b.tuple))) rfl) (fun _ => EW.or (k1 := true) (k2 := true) (ET.to (ET.cm (EV.len (EV.nm 2) rfl W.b.len) EV.int CS.neI) (by rw [decide_eq_false (by omega)]; rfl)) (fun z => nomatch z) (fun _ => rfl)) (fun z => nomatch z))) rfl) (SB.one (ST.ret EV.bl))))
  · rw [shows_no fun H U V hs => by
      rw [hs.1] at hf
      cases hf]
    exact start (SB.stop (ST.yes (ET.to (EW.et (EW.or (k1 := true) (k2 := true) (ET.to (ET.not (ET.val (EV.isTuple (EV.nm 2) W.b.isinstance W.b.tuple))) (by rw [hf]; rfl)) (fun z => nomatch z) (fun _ => rfl))) rfl) (SB.one (ST.ret EV.bl))))
/-- both look at a value alike -/
theorem holds_shows {a h : List (List Int)} {n w r : Nat} {pc : Nat → Nat} (hn : 0 < n) (ta : Tb a n w) (f : HF h w r pc) (hl : h.length = n) (s1 : Sub h a) (s2 : Sub a h) (d : D) : holdsB a d = showsB a h d := by
  have tal := ta.1
  have hwa : wd a = w := tb_wd ta hn
  by_cases hex : ∃ H U V, Shape a d H U V
  · obtain ⟨H, U, V, hs⟩ := hex
    have tH := hs.2.1
    have tU := hs.2.2.1
    have tV := hs.2.2.2
    rw [tal] at tH tU tV
    rw [hwa] at tH
    rw [holds_yes hs, shows_yes hs, Bool.eq_iff_iff]
    have := paper_iff hn ta f hl s1 s2 tH tU tV
    simp only [decide_eq_true_eq, Bool.and_eq_true]
    exact this
  · rw [holds_no fun H U V hs => hex ⟨H, U, V, hs⟩, shows_no fun H U V hs => hex ⟨H, U, V, hs⟩]
end
end
section
section
variable {g : Pg}
theorem Bn.mono {m : List (List Int)} {B B' : Nat} (h : Bn m B) (hb : B ≤ B') : Bn m B' := fun i j => Nat.le_trans (h i j) hb
theorem Bn.of {m : List (List Int)} {B : Nat} (h : ∀ q ∈ m, ∀ x ∈ q, x.natAbs ≤ B) : Bn m B := fun _ _ => gE_bd h
theorem most_bn {m : List (List Int)} {B : Nat} (h : mostF m ≤ B) : Bn m B := Bn.of (mostF_le.mp h)
theorem bn_unit {n : Nat} : Bn (unitM n) 30 := fun i j => by
  rw [gE_unit]
  split
  · unfold dlt
    split <;> decide
  · decide
/-- what a step wants of a matrix -/
theorem lead_arg {m : List (List Int)} {n w B : Nat} {o : Op} (t : Tb m n w) (hn : n ≤ 8) (hw : w ≤ 8) (ho : o.ok n) (hs : o.sm (2 ^ 100)) (hb : Bn m B) (hB : B ≤ 2 ^ 200) : ∃ m0 m', lM m = lM m0 ∧ Led m0 o.d m' ∧ m0.length < 1000 ∧ (∀ q ∈ m0, q.length < 1000) ∧ Bd m0 ∧ (∀ i j, i < m0.length → j < m0.length → (m0.getD i []).length = (m0.getD j []).length) ∧ lM (ledF o m) = lM m' := by
  have hl := t.1
  exact ⟨m, ledF o m, rfl, led_of (by rw [hl]; exact ho) hs, by omega, fun q hq => by rw [t.2 q hq]; omega, hb.bd hB, fun i j hi hj => by rw [t.2 _ (mem_getD hi), t.2 _ (mem_getD hj)], rfl⟩
theorem undo_arg {m : List (List Int)} {n p B : Nat} {o : Op} (t : Tb m p n) (hp : p ≤ 8) (ho : o.ok n) (hs : o.sm (2 ^ 100)) (hb : Bn m B) (hB : B ≤ 2 ^ 200) : ∃ m0 n0 f, lM m = lM m0 ∧ Und n0 o.d f ∧ m0.length < 1000 ∧ (∀ q ∈ m0, q.length = n0) ∧ Bd m0 ∧ lM (m.map (undF o)) = lM (m0.map f) := by
  have hl := t.1
  exact ⟨m, n, undF o, rfl, und_of ho hs, by omega, t.2, hb.bd hB, rfl⟩
abbrev pb : List Stmt := defBody s_law_pair
theorem pair_run (W : Wd g) {n : Nat} (hn : 1 ≤ n ∧ n ≤ 8) (ns : List Int) : ∃ v u ns', Pr u v n ∧ Bn v 30 ∧ Bn u 30 ∧ Run g n_law_pair s_law_pair 2 [.adr 0, .dat (.int (n : Int))] [rowC ns] (.dat (.tup [lM v, lM u])) [rowC ns'] := by
  have TK := ok_law_take W
  let C := mkC g n_law_pair s_law_pair 2
  have p0 := tk_pos (ns := ns) (b := (n : Int) + 6) (by omega)
  let F : O → O → O → O → O → O → List O := fun v u k d nw od => [.adr 0, .dat (.int (n : Int)), v, u, k, d, nw, od]
  obtain ⟨u, u0, uI, uP⟩ := chain (S := List Int × List (List Int) × List (List Int)) (n := (tk ns ((n : Int) + 6)).toNat) (I := fun _ s => Pr s.2.2 s.2.1 n ∧ Bn s.2.1 30 ∧ Bn s.2.2 30)
    (P := fun i s s' => ∃ E2, Fg E2 (F (.dat (lM s'.2.1)) (.dat (lM s'.2.2)) .no .no .no .no) ∧ SB C (bodyOf (pb.getD 2 (.Pass ⟨0, 0, 0, 0⟩))) (F (.dat (lM s.2.1)) (.dat (lM s.2.2)) (.dat (.int (i : Int))) .no .no .no) [rowC s.1] (.nx E2 [rowC s'.1])) (fun i hi s hs => by
      obtain ⟨k1, v, w⟩ := s
      obtain ⟨h1, h2, h3⟩ := hs
      simp only at h1 h2 h3
      obtain ⟨d, k2, hd, hr⟩ := deed_run W hn k1
      obtain ⟨o, ho, hsm, rfl⟩ := hd.op
      have go : ∀ {rest : List Stmt} {r : Out}, SB C rest (F (.dat (lM v)) (.dat (lM w)) (.dat (.int (i : Int))) (.dat o.d) (.dat (lM (ledF o v))) (.dat (lM (w.map (undF o))))) [rowC k2] r → SB C ((bodyOf (pb.getD 2 (.Pass ⟨0, 0, 0, 0⟩))).getD 0 (.Pass ⟨0, 0, 0, 0⟩) :: (bodyOf (pb.getD 2 (.Pass ⟨0, 0, 0, 0⟩))).getD 1 (.Pass ⟨0, 0, 0, 0⟩) :: (bodyOf (pb.getD 2 (.Pass ⟨0, 0, 0, 0⟩))).getD 2 (.Pass ⟨0, 0, 0, 0⟩) :: rest) (F (.dat (lM v)) (.dat (lM w)) (.dat (.int (i : Int))) .no .no .no) [rowC k1] r := fun {rest r} hh =>
        SB.cons (E1 := F (.dat (lM v)) (.dat (lM w)) (.dat (.int (i : Int))) (.dat o.d) .no .no) (M1 := [rowC k2]) (ST.set 5 (EV.call1' (n := 0) (ds := [.int (n : Int)]) (cs := k1.map D.int) (cs' := k2.map D.int) (fn_deed W) (EA.cons (EV.nm 0) (EA.cons (EV.nm 1) EA.nil)) rfl ⟨rfl, hr⟩) c_law_pair.nd) (SB.cons (E1 := F (.dat (lM v)) (.dat (lM w)) (.dat (.int (i : Int))) (.dat o.d) (.dat (lM (ledF o v))) .no) (M1 := [rowC k2]) (ST.set 6 (EV.c2 (ok_law_lead W) (EV.nm 2) (EV.nm 5) (lead_arg h1.tv hn.2 hn.2 ho hsm h2 (by decide))) c_law_pair.nd) (SB.cons (E1 := F (.dat (lM v)) (.dat (lM w)) (.dat (.int (i : Int))) (.dat o.d) (.dat (lM (ledF o v))) (.dat (lM (w.map (undF o))))) (M1 := [rowC k2]) (ST.set 7 (EV.c2 (ok_law_undo W) (EV.nm 3) (EV.nm 5) (undo_arg h1.tu hn.2 ho hsm h3 (by decide))) c_law_pair.nd) hh))
      by_cases hb : mostF (ledF o v) ≤ 30
      · by_cases hb2 : mostF (w.map (undF o)) ≤ 30
        · refine ⟨(k2, ledF o v, w.map (undF o)), ⟨_, ?_, go (SB.one (ST.yes (ET.to (EW.et (EW.and (k1 := true) (k2 := true) (ET.to (ET.cm (EV.c1 (ok_law_most W) (EV.nm 6) ⟨_, sq_l, rfl⟩) EV.int CS.leI) (decide_eq_true (by omega))) (fun _ => EW.and1 (ET.to (ET.cm (EV.c1 (ok_law_most W) (EV.nm 7) ⟨_, sq_l, rfl⟩) EV.int CS.leI) (decide_eq_true (by omega)))) (fun z => nomatch z))) rfl) (SB.cons (ST.set 2 (EV.nm 6) c_law_pair.nd) (SB.one (ST.set 3 (EV.nm 7) c_law_pair.nd)))))⟩, h1.step hn.1 ho, most_bn hb, most_bn hb2⟩
          exact Fg.cons (Fg.cons (Fg.cons (Fg.cons (Fg.no (Fg.no (Fg.no (Fg.no Fg.nil)))))))
        · refine ⟨(k2, v, w), ⟨_, ?_, go (SB.one (ST.no (ET.to (EW.et (EW.and (k1 := true) (k2 := false) (ET.to (ET.cm (EV.c1 (ok_law_most W) (EV.nm 6) ⟨_, sq_l, rfl⟩) EV.int CS.leI) (decide_eq_true (by omega))) (fun _ => EW.and1 (ET.to (ET.cm (EV.c1 (ok_law_most W) (EV.nm 7) ⟨_, sq_l, rfl⟩) EV.int CS.leI) (decide_eq_false (by omega)))) (fun z => nomatch z))) rfl) SB.nil))⟩, h1, h2, h3⟩
          exact Fg.cons (Fg.cons (Fg.cons (Fg.cons (Fg.no (Fg.no (Fg.no (Fg.no Fg.nil)))))))
      · refine ⟨(k2, v, w), ⟨_, ?_, go (SB.one (ST.no (ET.to (EW.et (EW.and (k1 := false) (k2 := true) (ET.to (ET.cm (EV.c1 (ok_law_most W) (EV.nm 6) ⟨_, sq_l, rfl⟩) EV.int CS.leI) (decide_eq_false (by omega))) (fun z => nomatch z) (fun _ => rfl))) rfl) SB.nil))⟩, h1, h2, h3⟩
        exact Fg.cons (Fg.cons (Fg.cons (Fg.cons (Fg.no (Fg.no (Fg.no (Fg.no Fg.nil)))))))) (dl 1 ns, unitM n, unitM n) ⟨Pr.one hn.1, bn_unit, bn_unit⟩
  obtain ⟨a1, a2, a3⟩ := uI _ (Nat.le_refl _)
  generalize hu : u (tk ns ((n : Int) + 6)).toNat = ue at a1 a2 a3
  obtain ⟨k3, v, w⟩ := ue
  refine ⟨v, w, k3, a1, a2, a3, Nat.le_refl _, True.intro, lowR, [], ?_⟩
  refine SB.cons (E1 := F (.dat (lM (unitM n))) .no .no .no .no .no) (M1 := [rowC ns]) (ST.set 2 (EV.c1 (ok_law_unit W) (EV.nm 1) ⟨n, by omega, rfl, rfl⟩) c_law_pair.nd) ?_
  refine SB.cons (E1 := F (.dat (lM (unitM n))) (.dat (lM (unitM n))) .no .no .no .no) (M1 := [rowC ns]) (ST.set 3 (EV.c1 (ok_law_unit W) (EV.nm 1) ⟨n, by omega, rfl, rfl⟩) c_law_pair.nd) ?_
  refine SB.cons (E1 := F (.dat (lM v)) (.dat (lM w)) .no .no .no .no) (M1 := [rowC k3]) (ST.to (ST.forN 4 (n := (tk ns ((n : Int) + 6)).toNat) (E_ := fun i => F (.dat (lM (u i).2.1)) (.dat (lM (u i).2.2)) .no .no .no .no) (M_ := fun i => [rowC (u i).1]) (EI.rng1 (ev_tk (ns := ns) (j := (n : Int) + 6) TK (EV.nm 0) (EV.add (EV.nm 1) EV.int) rfl (by omega)) W.b.range (by omega)) (by rw [u0]; exact Fg.refl) (by rw [u0]; rfl) (fun _ _ => True.intro) c_law_pair.nd (fun i hi => by rw [atI0_eq]; exact uP i hi)) (by rw [hu])) ?_
  exact SB.one (ST.ret (EV.tup (ds := [lM v, lM w]) (EA.cons (EV.nm 2) (EA.cons (EV.nm 3) EA.nil)) (by show 2 ≤ 100000; decide)))
theorem fn_pair (W : Wd g) : FN g "_law_pair" 3 (fun os M o M' => os.length = 2 ∧ Run g n_law_pair s_law_pair 2 os M o M') := FN.run (ps := ["row", "n"]) W.t_law_pair c_law_pair (fun _ _ _ _ _ _ us hl => match us, hl with | [_, _], _ => rfl)
/-- a step that leaves a matrix without rows from r on -/
def Op.still (r : Nat) : Op → Prop
  | .turn z => r ≤ z
  | .swap i z => r ≤ i ∧ r ≤ z
  | .add _ z _ => r ≤ z
theorem still_led {h : List (List Int)} {n w r : Nat} {o : Op} (t : Tb h n w) (ho : o.ok n) (hs : o.still r) (low : ∀ i, r ≤ i → ∀ j, gE h i j = 0) : ledF o h = h := tb_eq (led_tb t ho) t fun i j _ _ => by
  rw [gE_led t ho]
  cases o with
  | turn z =>
    have hz : r ≤ z := hs
    show (if i = z then -gE h z j else gE h i j) = gE h i j
    by_cases e : i = z
    · rw [if_pos e, e, low z hz]
      rfl
    · rw [if_neg e]
  | swap a z =>
    obtain ⟨h1, h2⟩ := hs
    show (if i = z then gE h a j else if i = a then gE h z j else gE h i j) = gE h i j
    by_cases e : i = z
    · rw [if_pos e, e, low z h2, low a h1]
    · rw [if_neg e]
      by_cases e2 : i = a
      · rw [if_pos e2, e2, low z h2, low a h1]
      · rw [if_neg e2]
  | add a z k =>
    have hz : r ≤ z := hs
    show (if i = a then gE h a j + k * gE h z j else gE h i j) = gE h i j
    by_cases e : i = a
    · rw [if_pos e, low z hz, Int.mul_zero, Int.add_zero, e]
    · rw [if_neg e]
def LS5 : List Int := [1, -1, 2, 7, -(10 ^ 20)]
theorem LS5_ok : ∀ x ∈ LS5, x.natAbs ≤ 2 ^ 70 := by decide
theorem still_run (W : Wd g) {n r : Nat} (hn : n ≤ 8) (hr : r < n) (ns : List Int) : ∃ o ns', o.ok n ∧ o.sm (2 ^ 70) ∧ o.still r ∧ Run g n_law_still s_law_still 1 [.adr 0, .dat (.int (n : Int)), .dat (.int (r : Int))] [rowC ns] (.dat (Op.d o)) [rowC ns'] := by
  have TK := ok_law_take W
  let C := mkC g n_law_still s_law_still 1
  let sb : List Stmt := defBody s_law_still
  let F : O → O → List O := fun z i => [.adr 0, .dat (.int (n : Int)), .dat (.int (r : Int)), z, i]
  have p0 := tk_pos (ns := ns) (b := (n : Int) - (r : Int)) (by omega)
  have p1 := tk_pos (ns := dl 1 ns) (b := (n : Int)) (by omega)
  obtain ⟨z, ez⟩ : ∃ z : Nat, (r : Int) + tk ns ((n : Int) - (r : Int)) = (z : Int) := ⟨((r : Int) + tk ns ((n : Int) - (r : Int))).toNat, by omega⟩
  obtain ⟨i, ei⟩ : ∃ i : Nat, tk (dl 1 ns) (n : Int) = (i : Int) := ⟨(tk (dl 1 ns) (n : Int)).toNat, by omega⟩
  have hz : r ≤ z ∧ z < n := by omega
  have hi : i < n := by omega
  have start : ∀ {q : Out}, SB C (sb.drop 2) (F (.dat (.int (z : Int))) (.dat (.int (i : Int)))) [rowC (dl 2 ns)] q → SB C sb (pad n_law_still [.adr 0, .dat (.int (n : Int)), .dat (.int (r : Int))]) [rowC ns] q := fun {q} hh =>
    SB.cons (E1 := F (.dat (.int (z : Int))) .no) (M1 := [rowC (dl 1 ns)]) (ST.set 3 (EV.to (EV.add (EV.nm 2) (ev_tk (ns := ns) (j := (n : Int) - (r : Int)) TK (EV.nm 0) (EV.sub (EV.nm 1) (EV.nm 2)) rfl (by omega))) (by rw [ez])) c_law_still.nd) (SB.cons (E1 := F (.dat (.int (z : Int))) (.dat (.int (i : Int)))) (M1 := [rowC (dl 2 ns)]) (ST.set 4 (EV.to (ev_tk (ns := dl 1 ns) (j := (n : Int)) TK (EV.nm 0) (EV.nm 1) rfl (by omega)) (by rw [ei])) c_law_still.nd) hh)
  by_cases h1 : i = z
  · exact ⟨.turn z, dl 2 ns, hz.2, True.intro, hz.1, Nat.le_refl _, True.intro, lowR, [], start (SB.stop (ST.yes (ET.to (ET.cm (EV.nm 4) (EV.nm 3) CS.eqI) (decide_eq_true (by omega))) (SB.one (ST.ret (EV.tup (ds := [.str "turn", .int (z : Int)]) (EA.cons EV.str (EA.cons (EV.nm 3) EA.nil)) (by show 2 ≤ 100000; decide))))))⟩
  · have no1 : ∀ {q : Out} {rest : List Stmt} {ys : List Stmt} {p p1 p2 p3 : Pos}, SB C rest (F (.dat (.int (z : Int))) (.dat (.int (i : Int)))) [rowC (dl 2 ns)] q → SB C (.If (.Compare (.Name "i" p1) [.Eq] [.Name "z" p2] p3) ys [] p :: rest) (F (.dat (.int (z : Int))) (.dat (.int (i : Int)))) [rowC (dl 2 ns)] q := fun {q rest ys p p1 p2 p3} hh => SB.cons (ST.no (ET.to (ET.cm (EV.nm 4) (EV.nm 3) CS.eqI) (decide_eq_false (by omega))) SB.nil) hh
    have add : ∀ {k : List Int}, SB C (sb.drop 4) (F (.dat (.int (z : Int))) (.dat (.int (i : Int)))) [rowC k] (.rt (.dat (Op.d (.add i z (pick LS5 (tk k 5))))) [rowC (dl 1 k)]) := fun {k} => by
      have p2 := tk_pos (ns := k) (b := 5) (by decide)
      exact SB.one (ST.ret (EV.tup (ds := [.str "add", .int (i : Int), .int (z : Int), .int (pick LS5 (tk k 5))]) (EA.cons EV.str (EA.cons (EV.nm 4) (EA.cons (EV.nm 3) (EA.cons (EV.ix (EV.lst (ds := LS5.map D.int) (EA.cons EV.int (EA.cons (EV.neg EV.int) (EA.cons EV.int (EA.cons EV.int (EA.cons (EV.neg (EV.pow EV.int EV.int ⟨by decide, by decide, by decide⟩)) EA.nil))))) (by decide)) (ev_tk (ns := k) TK (EV.nm 0) EV.int rfl (by decide)) (pick_at p2)) EA.nil)))) (by show 4 ≤ 100000; decide)))
    have hp : ∀ k : List Int, (pick LS5 (tk k 5)).natAbs ≤ 2 ^ 70 := fun k => LS5_ok _ (pick_mem (tk_pos (by decide)))
    by_cases h2 : r ≤ i
    · by_cases h3 : tk (dl 2 ns) 2 = 0
      · exact ⟨.swap i z, dl 3 ns, ⟨hi, hz.2, fun e => h1 e.symm⟩, True.intro, ⟨h2, hz.1⟩, Nat.le_refl _, True.intro, lowR, [], start (no1 (SB.stop (ST.yes (ET.to (EW.et (EW.and (k1 := true) (k2 := true) (ET.to (ET.cm (EV.nm 4) (EV.nm 2) CS.geI) (decide_eq_true (by omega))) (fun _ => EW.and1 (ET.to (ET.cm (ev_tk (ns := dl 2 ns) TK (EV.nm 0) EV.int rfl (by decide)) EV.int CS.eqI) (decide_eq_true h3))) (fun z => nomatch z))) rfl) (SB.one (ST.ret (EV.tup (ds := [.str "swap", .int (i : Int), .int (z : Int)]) (EA.cons EV.str (EA.cons (EV.nm 4) (EA.cons (EV.nm 3) EA.nil))) (by show 3 ≤ 100000; decide)))))))⟩
      · exact ⟨.add i z (pick LS5 (tk (dl 3 ns) 5)), dl 4 ns, ⟨hi, hz.2, fun e => h1 e.symm⟩, hp _, hz.1, Nat.le_refl _, True.intro, lowR, [], start (no1 (SB.cons (M1 := [rowC (dl 3 ns)]) (ST.no (ET.to (EW.et (EW.and (k1 := true) (k2 := false) (ET.to (ET.cm (EV.nm 4) (EV.nm 2) CS.geI) (decide_eq_true (by omega))) (fun _ => EW.and1 (ET.to (ET.cm (ev_tk (ns := dl 2 ns) TK (EV.nm 0) EV.int rfl (by decide)) EV.int CS.eqI) (decide_eq_false h3))) (fun z => nomatch z))) rfl) SB.nil) add))⟩
    · exact ⟨.add i z (pick LS5 (tk (dl 2 ns) 5)), dl 3 ns, ⟨hi, hz.2, fun e => h1 e.symm⟩, hp _, hz.1, Nat.le_refl _, True.intro, lowR, [], start (no1 (SB.cons (M1 := [rowC (dl 2 ns)]) (ST.no (ET.to (EW.et (EW.and (k1 := false) (k2 := true) (ET.to (ET.cm (EV.nm 4) (EV.nm 2) CS.geI) (decide_eq_false (by omega))) (fun z => nomatch z) (fun _ => rfl))) rfl) SB.nil) add))⟩
theorem fn_still (W : Wd g) : FN g "_law_still" 2 (fun os M o M' => os.length = 3 ∧ Run g n_law_still s_law_still 1 os M o M') := FN.run (ps := ["row", "n", "r"]) W.t_law_still c_law_still (fun _ _ _ _ _ _ us hl => match us, hl with | [_, _, _], _ => rfl)
theorem ok_law_paper (W : Wd g) : FN g "_law_paper" 2 (P3 fun d e f r => ∃ H U V, Sq d H ∧ Sq e U ∧ Sq f V ∧ H.length < 100000 ∧ U.length < 100000 ∧ V.length < 100000 ∧ r = .tup [tM H, tM U, tM V]) := by
  refine FN.mk3 W.t_law_paper c_law_paper (fun _ _ _ _ _ _ us hl => match us, hl with | [_, _, _], _ => rfl) (fun d e f r h => ?_)
  obtain ⟨H, U, V, h1, h2, h3, l1, l2, l3, rfl⟩ := h
  exact SB.one (ST.ret (EV.tup (ds := [tM H, tM U, tM V]) (EA.cons (EV.c1 (ok_law_rows W) (EV.nm 0) ⟨H, h1, l1, rfl⟩) (EA.cons (EV.c1 (ok_law_rows W) (EV.nm 1) ⟨U, h2, l2, rfl⟩) (EA.cons (EV.c1 (ok_law_rows W) (EV.nm 2) ⟨V, h3, l3, rfl⟩) EA.nil))) (by show 3 ≤ 100000; decide)))
end
end
section
section
variable {g : Pg}
theorem cut_take {α : Type} {xs : List α} {i : Nat} (h : i ≤ xs.length) : cutD xs none (some (i : Int)) = xs.take i := cutD_nat h
theorem cut_drop {α : Type} {xs : List α} {i : Nat} (h : i ≤ xs.length) : cutD xs (some (i : Int)) none = xs.drop i := by
  unfold cutD
  have e1 : HT.sIx xs.length 0 (some (i : Int)) = i := by rw [HT.sIx_nat]; omega
  have e2 : HT.sIx xs.length xs.length none = xs.length := rfl
  rw [e1, e2, List.take_of_length_le (by rw [List.length_drop]; exact Nat.le_refl _)]
/-! ### one number changed -/
def chg (A : List (List Int)) (i j : Nat) (δ : Int) : List (List Int) := A.set i ((A.getD i []).set j (gE A i j + δ))
theorem chg_tb {A : List (List Int)} {n w i j : Nat} {δ : Int} (h : Tb A n w) (hi : i < n) : Tb (chg A i j δ) n w := ⟨by unfold chg; rw [List.length_set, h.1], set_wid h.2 (by rw [List.length_set]; exact h.2 _ (mem_getD (by rw [h.1]; exact hi)))⟩
theorem gE_chg {A : List (List Int)} {n w i j : Nat} {δ : Int} (h : Tb A n w) (hi : i < n) (hj : j < w) (a b : Nat) : gE (chg A i j δ) a b = gE A a b + (if a = i ∧ b = j then δ else 0) := by
  unfold chg
  rw [gE_set (by rw [h.1]; exact hi)]
  by_cases e : a = i
  · subst e
    rw [if_pos rfl, getD_set (by rw [h.2 _ (mem_getD (by rw [h.1]; exact hi))]; exact hj)]
    by_cases e2 : b = j
    · rw [if_pos e2, if_pos ⟨rfl, e2⟩, e2]
    · rw [if_neg e2, if_neg (fun z => e2 z.2)]
      show gE A a b = _
      omega
  · rw [if_neg e, if_neg (fun z => e z.1)]
    omega
theorem chg_bn {A : List (List Int)} {n w i j B : Nat} {δ : Int} (h : Tb A n w) (hi : i < n) (hj : j < w) (hb : Bn A B) (hd : δ.natAbs ≤ 5) : Bn (chg A i j δ) (B + 5) := fun a b => by
  rw [gE_chg h hi hj]
  have := hb a b
  split <;> omega
theorem chg_ne {A : List (List Int)} {n w i j : Nat} {δ : Int} (h : Tb A n w) (hi : i < n) (hj : j < w) (hd : δ ≠ 0) : chg A i j δ ≠ A := fun e => by
  have := gE_chg (δ := δ) h hi hj i j
  rw [e, if_pos ⟨rfl, rfl⟩] at this
  omega
def LC4 : List Int := [1, -1, 2, -5]
theorem LC4_ok : ∀ x ∈ LC4, x ≠ 0 ∧ x.natAbs ≤ 5 := by decide
theorem changed_run (W : Wd g) {A : List (List Int)} {n w : Nat} (t : Tb A n w) (hn : 1 ≤ n ∧ n ≤ 8) (hw : 1 ≤ w ∧ w ≤ 8) (ns : List Int) : ∃ i j δ ns', i < n ∧ j < w ∧ δ ≠ 0 ∧ δ.natAbs ≤ 5 ∧ Run g n_law_changed s_law_changed 1 [.adr 0, .dat (lM A)] [rowC ns] (.dat (lM (chg A i j δ))) [rowC ns'] := by
  have TK := ok_law_take W
  let C := mkC g n_law_changed s_law_changed 1
  have tl := t.1
  have hA0 : ixD (lM A) ((0 : Nat) : Int) = some (lV (A.getD 0 [])) := ix_lM (by omega)
  have hAl : (A.getD 0 []).length = w := t.2 _ (mem_getD (by omega))
  have p0 := tk_pos (ns := ns) (b := (n : Int)) (by omega)
  have p1 := tk_pos (ns := dl 1 ns) (b := (w : Int)) (by omega)
  have p2 := tk_pos (ns := dl 2 ns) (b := 4) (by decide)
  obtain ⟨i, ei⟩ : ∃ i : Nat, tk ns (n : Int) = (i : Int) := ⟨(tk ns (n : Int)).toNat, by omega⟩
  obtain ⟨j, ej⟩ : ∃ j : Nat, tk (dl 1 ns) (w : Int) = (j : Int) := ⟨(tk (dl 1 ns) (w : Int)).toNat, by omega⟩
  have hi : i < A.length := by omega
  have hj : j < w := by omega
  have hj' : j < (A.getD i []).length := by rw [t.2 _ (mem_getD hi)]; exact hj
  have hd := LC4_ok _ (pick_mem (L := LC4) (i := tk (dl 2 ns) 4) p2)
  generalize hpv : pick LC4 (tk (dl 2 ns) 4) = δ at hd
  let F : O → O → O → List O := fun t i j => [.adr 0, .dat (lM A), t, i, j, .no]
  refine ⟨i, j, δ, dl 3 ns, by omega, hj, hd.1, hd.2, Nat.le_refl _, True.intro, lowR, none :: List.replicate (chg A i j δ).length none, ?_⟩
  refine SB.cons (E1 := F (.adr 1) .no .no) (M1 := rowC ns :: matC 1 A) (ST.to (LC.set 2 (LC.lNest 5 (pre := [rowC ns]) (xs := A) (f := lV) (fun r => r) (own := [("line", 5)]) (by rfl) c_law_changed.nd rfl (EV.nm 1) rfl (by omega) (fun r hr M => EV.listN (EV.nm 5) rfl W.b.list)) rfl rfl (fun env he => sw_true (by rw [he]; rfl) (by rw [he]; rfl) (by rfl) (by rfl))) (by rw [List.map_id']; rfl)) ?_
  refine SB.cons (E1 := F (.adr 1) (.dat (.int (i : Int))) .no) (M1 := rowC (dl 1 ns) :: matC 1 A) (ST.set 3 (EV.to (ev_tk (ns := ns) (j := (n : Int)) TK (EV.nm 0) (EV.to (EV.len (EV.nm 1) len_lM W.b.len) (by rw [tl])) rfl (by omega)) (by rw [ei])) c_law_changed.nd) ?_
  refine SB.cons (E1 := F (.adr 1) (.dat (.int (i : Int))) (.dat (.int (j : Int)))) (M1 := rowC (dl 2 ns) :: matC 1 A) (ST.set 4 (EV.to (ev_tk (ns := dl 1 ns) (j := (w : Int)) TK (EV.nm 0) (EV.to (EV.len (EV.ix (EV.nm 1) EV.int hA0) len_lV W.b.len) (by rw [hAl])) rfl (by omega)) (by rw [ej])) c_law_changed.nd) ?_
  refine SB.cons (E1 := F (.adr 1) (.dat (.int (i : Int))) (.dat (.int (j : Int)))) (M1 := rowC (dl 3 ns) :: matC 1 (chg A i j δ)) (ST.to (ST.asg (M1 := rowC (dl 3 ns) :: matC 1 A) (o := .dat (.int ((A.getD i []).getD j 0 + δ))) (EV.to (EV.add (EV.ixC (n := 1 + 1 + i) (EV.ixC (n := 1) (EV.nm 2) (EV.nm 3) rfl (adr_at (b := 1 + 1) hi)) (EV.nm 4) (m1_get hi) (row_at hj')) (EV.ix (EV.lst (ds := LC4.map D.int) (EA.cons EV.int (EA.cons (EV.neg EV.int) (EA.cons EV.int (EA.cons (EV.neg EV.int) EA.nil)))) (by decide)) (ev_tk (ns := dl 2 ns) TK (EV.nm 0) EV.int rfl (by decide)) (pick_at p2))) (by rw [hpv])) (EG.sub (n := 1 + 1 + i) (jj := j) (ps := ((A.getD i []).map D.int).map O.dat) (EV.ixC (n := 1) (EV.nm 2) (EV.nm 3) rfl (adr_at (b := 1 + 1) hi)) (EV.nm 4) (m1_get hi) (by rw [row_len]; exact ixN_of hj'))) ?_) ?_
  · show Out.nx _ ((rowC (dl 3 ns) :: matC 1 A).set (1 + 1 + i) _) = _
    rw [row_set, m1_set hi]
    rfl
  · exact SB.fzM (pre := [rowC (dl 3 ns)]) (jj := 2) rfl (SB.one (ST.ret (EV.nm 2)))
theorem fn_changed (W : Wd g) : FN g "_law_changed" 2 (fun os M o M' => os.length = 2 ∧ Run g n_law_changed s_law_changed 1 os M o M') := FN.run (ps := ["row", "a"]) W.t_law_changed c_law_changed (fun _ _ _ _ _ _ us hl => match us, hl with | [_, _], _ => rfl)
/-! ### values of another form -/
abbrev bnt (M : List (List Int)) : D := .tup (.tup (.bl (decide (gE M 0 0 = 1)) :: ((M.getD 0 []).drop 1).map D.int) :: (M.drop 1).map tV)
def W19 (H U V : List (List Int)) : List D := [.lst [tM H, tM U, tM V], .tup [tM H, tM U], .tup [tM H, tM U, tM V, tM V], .tup [.lst (H.map tV), tM U, tM V], .tup [tM H, lM U, tM V], .tup [tM H, tM U, .tup (lV (V.getD 0 []) :: (V.drop 1).map tV)], .non, tM H, .tup [], .tup [.non, tM U, tM V], .tup [tM H, tM U, .int 1], .tup [tM H, bnt U, tM V], .tup [tM H, tM U, .tup (V.map tV ++ V.map tV)], .tup [.tup (H.map tV ++ H.map tV), tM U, tM V], .tup [.str "hermite", tM H, tM U, tM V], .tup [tM H, tM U, bnt V], .tup [.tup [tM H, tM U, tM V]], .dct [.inr "H"] [.int 1], .str "huv"]
theorem W19_no {H U V : List (List Int)} {n w : Nat} (tH : Tb H n w) (tU : Tb U n n) (tV' : Tb V n n) (hn : 1 ≤ n) : ∀ d ∈ W19 H U V, ∀ A : List (List Int), Tb A n w → ∀ H' U' V', ¬ Shape A d H' U' V' := fun d hd A tA H' U' V' hs => by
  have hl := tA.1
  have l1 := hs.2.1.1
  have l2 := hs.2.2.1.1
  have l3 := hs.2.2.2.1
  rw [hl] at l1 l2 l3
  have e := hs.1
  have b1 := tH.1
  have b2 := tV'.1
  have ne1 : ∀ {M : List (List Int)} {x : D} {l : List D}, M.length = n → tM M = .tup (x :: l) → ∃ q, x = tV q := fun {M x l} hM hx => by
    cases M with
    | nil => simp at hM; omega
    | cons q m =>
      have := D.tup.inj hx
      injection this with h1 _
      exact ⟨q, h1.symm⟩
  have ne2 : ∀ {q : List Int} {b : Bool} {l : List D}, tV q ≠ .tup (.bl b :: l) := fun {q b l} hx => by
    have := D.tup.inj hx
    cases q with
    | nil => cases this
    | cons x q => injection this with h1 _; cases h1
  have bn : ∀ {M M' : List (List Int)}, M'.length = n → bnt M ≠ tM M' := fun {M M'} hM hx => by
    obtain ⟨q, hq⟩ := ne1 hM hx.symm
    exact ne2 hq.symm
  unfold W19 at hd
  simp only [List.mem_cons, List.not_mem_nil, or_false] at hd
  rcases hd with rfl | rfl | rfl | rfl | rfl | rfl | rfl | rfl | rfl | rfl | rfl | rfl | rfl | rfl | rfl | rfl | rfl | rfl | rfl
  · cases e
  · have := D.tup.inj e; injection this with _ h; injection h with _ h; cases h
  · have := D.tup.inj e; injection this with _ h; injection h with _ h; injection h with _ h; cases h
  · have := D.tup.inj e; injection this with h _; cases h
  · have := D.tup.inj e; injection this with _ h; injection h with h _; cases h
  · have := D.tup.inj e; injection this with _ h; injection h with _ h; injection h with h _
    obtain ⟨q, hq⟩ := ne1 l3 h.symm
    cases hq
  · cases e
  · have := D.tup.inj e
    cases H with
    | nil => simp at b1; omega
    | cons q m =>
      injection this with h _
      have hq := D.tup.inj h
      cases H' with
      | nil => simp at l1; omega
      | cons q' m' =>
        cases q with
        | nil => cases hq
        | cons x q => injection hq with h1 _; cases h1
  · cases e
  · have := D.tup.inj e; injection this with h _; cases h
  · have := D.tup.inj e; injection this with _ h; injection h with _ h; injection h with h _; cases h
  · have := D.tup.inj e; injection this with _ h; injection h with h _
    exact bn l2 h
  · have := D.tup.inj e; injection this with _ h; injection h with _ h; injection h with h _
    have := congrArg List.length (D.tup.inj h)
    rw [List.length_append, List.length_map, List.length_map] at this
    omega
  · have := D.tup.inj e; injection this with h _
    have := congrArg List.length (D.tup.inj h)
    rw [List.length_append, List.length_map, List.length_map] at this
    omega
  · have := D.tup.inj e; injection this with h _; cases h
  · have := D.tup.inj e; injection this with _ h; injection h with _ h; injection h with h _
    exact bn l3 h
  · have := D.tup.inj e; injection this with _ h; cases h
  · cases e
  · cases e
theorem ok_law_bent (W : Wd g) : FN g "_law_bent" 1 (P2 fun d e r => ∃ (k : Nat) (H U V : List (List Int)) (n w : Nat), k < 19 ∧ d = .int (k : Int) ∧ e = .tup [tM H, tM U, tM V] ∧ Tb H n w ∧ Tb U n n ∧ Tb V n n ∧ (1 ≤ n ∧ n ≤ 8) ∧ r = (W19 H U V).getD k .non) := by
  refine FN.mk2 W.t_law_bent c_law_bent (fun _ _ _ _ _ _ us hl => match us, hl with | [_, _], _ => rfl) (fun d e r h => ?_)
  obtain ⟨k, H, U, V, n, w, hk, rfl, rfl, tH, tU, tV', hn, rfl⟩ := h
  have b1 := tH.1
  have b2 := tU.1
  have b3 := tV'.1
  let F : O → List O := fun ws => [.dat (.int (k : Int)), .dat (.tup [tM H, tM U, tM V]), .dat (tM H), .dat (tM U), .dat (tM V), ws, .no]
  have V0 : ixD (tM V) ((0 : Nat) : Int) = some (tV (V.getD 0 [])) := ix_tM (by omega)
  have U0 : ixD (tM U) ((0 : Nat) : Int) = some (tV (U.getD 0 [])) := ix_tM (by omega)
  have lu : (U.getD 0 []).length = n := tU.2 _ (mem_getD (by omega))
  have lv : (V.getD 0 []).length = n := tV'.2 _ (mem_getD (by omega))
  have c1 : ∀ {M : List (List Int)}, M.length = n → cutD (M.map tV) (some 1) none = (M.drop 1).map tV := fun {M} hM => by
    rw [show (some (1 : Int)) = some ((1 : Nat) : Int) from rfl, cut_drop (by rw [List.length_map]; omega), List.map_drop]
  have c2 : ∀ {q : List Int}, q.length = n → cutD (q.map D.int) (some 1) none = (q.drop 1).map D.int := fun {q} hq => by
    rw [show (some (1 : Int)) = some ((1 : Nat) : Int) from rfl, cut_drop (by rw [List.length_map]; omega), List.map_drop]
  have sm : ∀ n : Nat, n ≤ 100 → n ≤ 100000 := fun n h => by omega
  let l0 : List D := [.lst [tM H, tM U, tM V], .tup [tM H, tM U], .tup [tM H, tM U, tM V, tM V], .tup [.lst (H.map tV), tM U, tM V], .tup [tM H, lM U, tM V]]
  let l1 : List D := [.tup [tM H, tM U, .tup (lV (V.getD 0 []) :: (V.drop 1).map tV)], .non, tM H, .tup [], .tup [.non, tM U, tM V], .tup [tM H, tM U, .int 1]]
  let l2 : List D := [.tup [tM H, bnt U, tM V], .tup [tM H, tM U, .tup (V.map tV ++ V.map tV)], .tup [.tup (H.map tV ++ H.map tV), tM U, tM V], .tup [.str "hermite", tM H, tM U, tM V]]
  let l3 : List D := [.tup [tM H, tM U, bnt V], .tup [.tup [tM H, tM U, tM V]], .dct [.inr "H"] [.int 1], .str "huv"]
  have eW : W19 H U V = l0 ++ l1 ++ l2 ++ l3 := rfl
  let C := mkC g n_law_bent s_law_bent 0
  refine SB.cons (E1 := F .no) (M1 := []) (ST.asg (EV.nm 1) (EG.tup (ds := [tM H, tM U, tM V]) (EGs.cons (EG.nm 2 c_law_bent.nd) (EGs.cons (EG.nm 3 c_law_bent.nd) (EGs.cons (EG.nm 4 c_law_bent.nd) EGs.nil))))) ?_
  refine SB.cons (E1 := F (.dat (.lst l0))) (M1 := []) (ST.set 5 (EV.lst (ds := l0) (EA.cons (EV.lst (ds := [tM H, tM U, tM V]) (EA.cons (EV.nm 2) (EA.cons (EV.nm 3) (EA.cons (EV.nm 4) EA.nil))) (sm 3 (by decide))) (EA.cons (EV.tup (ds := [tM H, tM U]) (EA.cons (EV.nm 2) (EA.cons (EV.nm 3) EA.nil)) (sm 2 (by decide))) (EA.cons (EV.tup (ds := [tM H, tM U, tM V, tM V]) (EA.cons (EV.nm 2) (EA.cons (EV.nm 3) (EA.cons (EV.nm 4) (EA.cons (EV.nm 4) EA.nil)))) (sm 4 (by decide))) (EA.cons (EV.tup (ds := [.lst (H.map tV), tM U, tM V]) (EA.cons (EV.list (EV.nm 2) rfl W.b.list) (EA.cons (EV.nm 3) (EA.cons (EV.nm 4) EA.nil))) (sm 3 (by decide))) (EA.cons (EV.tup (ds := [tM H, lM U, tM V]) (EA.cons (EV.nm 2) (EA.cons (LC.ev (LC.lM 6 (xs := U) (f := tV) (g := lV) (own := [("line", 6)]) (by rfl) c_law_bent.nd rfl (EV.nm 3) rfl (Nat.le_refl _) OkM.refl (by omega) (fun q hq M => EV.list (EV.nm 6) rfl W.b.list))) (EA.cons (EV.nm 4) EA.nil))) (sm 3 (by decide))) EA.nil))))) (sm 5 (by decide))) c_law_bent.nd) ?_
  refine SB.cons (E1 := F (.dat (.lst (l0 ++ l1)))) (M1 := []) (ST.set 5 (EV.bin (EV.nm 5) (EV.lst (ds := l1) (EA.cons (EV.tup (ds := [tM H, tM U, .tup (lV (V.getD 0 []) :: (V.drop 1).map tV)]) (EA.cons (EV.nm 2) (EA.cons (EV.nm 3) (EA.cons (EV.to (EV.bin (EV.tup (ds := [lV (V.getD 0 [])]) (EA.cons (EV.list (EV.ix (EV.nm 4) EV.int V0) rfl W.b.list) EA.nil) (sm 1 (by decide))) (EV.slT (EV.nm 4) (EO.some EV.int) EO.none) (BS.addT (by rw [c1 b3, List.length_map, List.length_drop]; show 1 + _ ≤ _; omega))) (by rw [c1 b3]; rfl)) EA.nil))) (sm 3 (by decide))) (EA.cons EV.non (EA.cons (EV.nm 2) (EA.cons (EV.tup (ds := []) EA.nil (sm 0 (by decide))) (EA.cons (EV.tup (ds := [.non, tM U, tM V]) (EA.cons EV.non (EA.cons (EV.nm 3) (EA.cons (EV.nm 4) EA.nil))) (sm 3 (by decide))) (EA.cons (EV.tup (ds := [tM H, tM U, .int 1]) (EA.cons (EV.nm 2) (EA.cons (EV.nm 3) (EA.cons EV.int EA.nil))) (sm 3 (by decide))) EA.nil)))))) (sm 6 (by decide))) (BS.addL (by show 5 + 6 ≤ _; omega))) c_law_bent.nd) ?_
  refine SB.cons (E1 := F (.dat (.lst (l0 ++ l1 ++ l2)))) (M1 := []) (ST.set 5 (EV.bin (EV.nm 5) (EV.lst (ds := l2) (EA.cons (EV.tup (ds := [tM H, bnt U, tM V]) (EA.cons (EV.nm 2) (EA.cons (EV.to (EV.bin (EV.tup (ds := [.tup (.bl (decide (gE U 0 0 = 1)) :: ((U.getD 0 []).drop 1).map D.int)]) (EA.cons (EV.to (EV.bin (EV.tup (ds := [.bl (decide (gE U 0 0 = 1))]) (EA.cons (EV.cm (ev_at (i := 0) (j := 0) sq_t (EV.nm 3) EV.int EV.int (by omega) (by omega)) EV.int CS.eqI) EA.nil) (sm 1 (by decide))) (EV.slT (EV.ix (EV.nm 3) EV.int U0) (EO.some EV.int) EO.none) (BS.addT (by rw [c2 lu, List.length_map, List.length_drop]; show 1 + _ ≤ _; omega))) (by rw [c2 lu]; rfl)) EA.nil) (sm 1 (by decide))) (EV.slT (EV.nm 3) (EO.some EV.int) EO.none) (BS.addT (by rw [c1 b2, List.length_map, List.length_drop]; show 1 + _ ≤ _; omega))) (by rw [c1 b2]; rfl)) (EA.cons (EV.nm 4) EA.nil))) (sm 3 (by decide))) (EA.cons (EV.tup (ds := [tM H, tM U, .tup (V.map tV ++ V.map tV)]) (EA.cons (EV.nm 2) (EA.cons (EV.nm 3) (EA.cons (EV.bin (EV.nm 4) (EV.nm 4) (BS.addT (by rw [List.length_map]; omega))) EA.nil))) (sm 3 (by decide))) (EA.cons (EV.tup (ds := [.tup (H.map tV ++ H.map tV), tM U, tM V]) (EA.cons (EV.bin (EV.nm 2) (EV.nm 2) (BS.addT (by rw [List.length_map]; omega))) (EA.cons (EV.nm 3) (EA.cons (EV.nm 4) EA.nil))) (sm 3 (by decide))) (EA.cons (EV.tup (ds := [.str "hermite", tM H, tM U, tM V]) (EA.cons EV.str (EA.cons (EV.nm 2) (EA.cons (EV.nm 3) (EA.cons (EV.nm 4) EA.nil)))) (sm 4 (by decide))) EA.nil)))) (sm 4 (by decide))) (BS.addL (by show 11 + 4 ≤ _; omega))) c_law_bent.nd) ?_
  refine SB.cons (E1 := F (.dat (.lst (l0 ++ l1 ++ l2 ++ l3)))) (M1 := []) (ST.set 5 (EV.bin (EV.nm 5) (EV.lst (ds := l3) (EA.cons (EV.tup (ds := [tM H, tM U, bnt V]) (EA.cons (EV.nm 2) (EA.cons (EV.nm 3) (EA.cons (EV.to (EV.bin (EV.tup (ds := [.tup (.bl (decide (gE V 0 0 = 1)) :: ((V.getD 0 []).drop 1).map D.int)]) (EA.cons (EV.to (EV.bin (EV.tup (ds := [.bl (decide (gE V 0 0 = 1))]) (EA.cons (EV.cm (ev_at (i := 0) (j := 0) sq_t (EV.nm 4) EV.int EV.int (by omega) (by omega)) EV.int CS.eqI) EA.nil) (sm 1 (by decide))) (EV.slT (EV.ix (EV.nm 4) EV.int V0) (EO.some EV.int) EO.none) (BS.addT (by rw [c2 lv, List.length_map, List.length_drop]; show 1 + _ ≤ _; omega))) (by rw [c2 lv]; rfl)) EA.nil) (sm 1 (by decide))) (EV.slT (EV.nm 4) (EO.some EV.int) EO.none) (BS.addT (by rw [c1 b3, List.length_map, List.length_drop]; show 1 + _ ≤ _; omega))) (by rw [c1 b3]; rfl)) EA.nil))) (sm 3 (by decide))) (EA.cons (EV.tup (ds := [.tup [tM H, tM U, tM V]]) (EA.cons (EV.tup (ds := [tM H, tM U, tM V]) (EA.cons (EV.nm 2) (EA.cons (EV.nm 3) (EA.cons (EV.nm 4) EA.nil))) (sm 3 (by decide))) EA.nil) (sm 1 (by decide))) (EA.cons (EV.dict1 EV.int) (EA.cons EV.str EA.nil)))) (sm 4 (by decide))) (BS.addL (by show 15 + 4 ≤ _; omega))) c_law_bent.nd) ?_
  have hm : ((k : Int) % 19) = (k : Int) := by omega
  refine SB.one (ST.ret (EV.ix (EV.nm 5) (EV.to (EV.mod (EV.intI (EV.nm 0) W.b.int) (EV.len (EV.nm 5) rfl W.b.len) (by show (0 : Int) < 19; decide)) (by show O.dat (.int ((k : Int) % 19)) = _; rw [hm])) ?_))
  refine atI_nat ?_
  rw [← eW]
  exact atO_get (show k < (W19 H U V).length from hk)
end
end
section
section
variable {g : Pg}
theorem lit_tab {H U V : List (List Int)} {B : Nat} (hB : B ≤ 2 ^ 200) (h1 : Bn H B) (h2 : Bn U B) (h3 : Bn V B) (A : List (List Int)) : Lit A (.tup [tM H, tM U, tM V]) := fun H' U' V' hs => by
  have := D.tup.inj hs.1
  injection this with e1 e2
  injection e2 with e3 e4
  injection e4 with e5 _
  rw [← tM_inj e1, ← tM_inj e3, ← tM_inj e5]
  exact ⟨(h1.bd hB).big, (h2.bd hB).big, (h3.bd hB).big⟩
theorem up_bn : 40 * (2 ^ 100 + 1) ≤ 2 ^ 200 := by decide
abbrev ob : List Stmt := defBody s_law_other
theorem other_run (W : Wd g) {H U V : List (List Int)} {n w r kd : Nat} (tH : Tb H n w) (tU : Tb U n n) (tV' : Tb V n n) (hn : 1 ≤ n ∧ n ≤ 8) (hw : 1 ≤ w ∧ w ≤ 8) (hr : r ≤ n) (hk : kd < 9) (bH : Bn H 30) (bU : Bn U 30) (bV : Bn V 30) (ns : List Int) :
    ∃ d ns', (∀ A, Tb A n w → Lit A d) ∧ Run g n_law_other s_law_other 2 [.adr 0, .dat (lM H), .dat (lM U), .dat (lM V), .dat (.int (r : Int)), .dat (.int (kd : Int))] [rowC ns] (.dat d) [rowC ns'] := by
  have TK := ok_law_take W
  let C := mkC g n_law_other s_law_other 2
  have hl := tH.1
  have ul := tU.1
  have vl := tV'.1
  let F : O → O → List O := fun d z => [.adr 0, .dat (lM H), .dat (lM U), .dat (lM V), .dat (.int (r : Int)), .dat (.int (kd : Int)), .dat (.int (n : Int)), d, z, .no]
  have ar : ∀ {X Y Z : List (List Int)}, X.length = n → Y.length = n → Z.length = n → ∃ H' U' V', Sq (lM X) H' ∧ Sq (lM Y) U' ∧ Sq (lM Z) V' ∧ H'.length < 100000 ∧ U'.length < 100000 ∧ V'.length < 100000 ∧ D.tup [tM X, tM Y, tM Z] = .tup [tM H', tM U', tM V'] := fun {X Y Z} a b c => ⟨X, Y, Z, sq_l, sq_l, sq_l, by omega, by omega, by omega, rfl⟩
  have no : ∀ {v : Int} {ys : List Stmt} {p p1 p2 p3 : Pos} {jj : Nat} {rest : List Stmt} {M : Mem} {q : Out}, (kd : Int) ≠ v → SB C rest (F .no .no) M q → SB C (.If (.Compare (.Name "kind" p1) [.Eq] [.Constant (.int v) jj p2] p3) ys [] p :: rest) (F .no .no) M q := fun {v ys p p1 p2 p3 jj rest M q} hv hh => SB.cons (ST.no (ET.to (ET.cm (EV.nm 5) EV.int CS.eqI) (decide_eq_false hv)) SB.nil) hh
  have yes : ∀ {v : Int} {ys : List Stmt} {p p1 p2 p3 : Pos} {jj : Nat} {rest : List Stmt} {M : Mem} {o : O} {M' : Mem}, (kd : Int) = v → SB C ys (F .no .no) M (.rt o M') → SB C (.If (.Compare (.Name "kind" p1) [.Eq] [.Constant (.int v) jj p2] p3) ys [] p :: rest) (F .no .no) M (.rt o M') := fun {v ys p p1 p2 p3 jj rest M o M'} hv hh => SB.stop (ST.yes (ET.to (ET.cm (EV.nm 5) EV.int CS.eqI) (decide_eq_true hv)) hh)
  have start : ∀ {q : Out}, SB C (ob.drop 1) (F .no .no) [rowC ns] q → SB C ob (pad n_law_other [.adr 0, .dat (lM H), .dat (lM U), .dat (lM V), .dat (.int (r : Int)), .dat (.int (kd : Int))]) [rowC ns] q := fun {q} hh => SB.cons (E1 := F .no .no) (M1 := [rowC ns]) (ST.set 6 (EV.to (EV.len (EV.nm 1) len_lM W.b.len) (by rw [hl])) c_law_other.nd) hh
  have fin : ∀ {d : D} {k : List Int}, (∀ A, Tb A n w → Lit A d) → SB C (ob.drop 1) (F .no .no) [rowC ns] (.rt (.dat d) [rowC k]) → ∃ d ns', (∀ A, Tb A n w → Lit A d) ∧ Run g n_law_other s_law_other 2 [.adr 0, .dat (lM H), .dat (lM U), .dat (lM V), .dat (.int (r : Int)), .dat (.int (kd : Int))] [rowC ns] (.dat d) [rowC ns'] := fun {d k} h1 h2 => ⟨d, k, h1, Nat.le_refl _, True.intro, lowR, [], start h2⟩
  have b30 : (30 : Nat) ≤ 40 * (2 ^ 100 + 1) := by decide
  have b35 : (30 + 5 : Nat) ≤ 40 * (2 ^ 100 + 1) := by decide
  have bK : (30 * (2 ^ 100 + 1) : Nat) ≤ 40 * (2 ^ 100 + 1) := by decide
  have bS : (30 * (2 ^ 70 + 1) : Nat) ≤ 40 * (2 ^ 100 + 1) := by decide
  have b90 : (90 : Nat) ≤ 40 * (2 ^ 100 + 1) := by decide
  have H0 := bH.mono b30
  have U0 := bU.mono b30
  have V0 := bV.mono b30
  have chd : ∀ {X : List (List Int)} {w' : Nat}, Tb X n w' → 1 ≤ w' ∧ w' ≤ 8 → Bn X 30 → ∃ Y k, Tb Y n w' ∧ Bn Y (30 + 5) ∧ Run g n_law_changed s_law_changed 1 [.adr 0, .dat (lM X)] [rowC ns] (.dat (lM Y)) [rowC k] := fun {X w'} t hw' hb => by
    obtain ⟨i, j, δ, k, h1, h2, h3, h4, h5⟩ := changed_run W t hn hw' ns
    exact ⟨chg X i j δ, k, chg_tb t h1, chg_bn t h1 h2 hb h4, h5⟩
  by_cases k0 : kd = 0
  · obtain ⟨Y, k, t, b, hrun⟩ := chd tH hw bH
    exact fin (k := k) (fun A _ => lit_tab up_bn (b.mono b35) U0 V0 A) (yes (by omega) (SB.one (ST.ret (EV.c3 (ok_law_paper W) (EV.call1' (n := 0) (ds := [lM H]) (cs := ns.map D.int) (cs' := k.map D.int) (fn_changed W) (EA.cons (EV.nm 0) (EA.cons (EV.nm 1) EA.nil)) rfl ⟨rfl, hrun⟩) (EV.nm 2) (EV.nm 3) (ar t.1 ul vl)))))
  by_cases k1 : kd = 1
  · obtain ⟨Y, k, t, b, hrun⟩ := chd tU hn bU
    exact fin (k := k) (fun A _ => lit_tab up_bn H0 (b.mono b35) V0 A) (no (by omega) (yes (by omega) (SB.one (ST.ret (EV.c3 (ok_law_paper W) (EV.nm 1) (EV.call1' (n := 0) (ds := [lM U]) (cs := ns.map D.int) (cs' := k.map D.int) (fn_changed W) (EA.cons (EV.nm 0) (EA.cons (EV.nm 2) EA.nil)) rfl ⟨rfl, hrun⟩) (EV.nm 3) (ar hl t.1 vl))))))
  by_cases k2 : kd = 2
  · obtain ⟨Y, k, t, b, hrun⟩ := chd tV' hn bV
    exact fin (k := k) (fun A _ => lit_tab up_bn H0 U0 (b.mono b35) A) (no (by omega) (no (by omega) (yes (by omega) (SB.one (ST.ret (EV.c3 (ok_law_paper W) (EV.nm 1) (EV.nm 2) (EV.call1' (n := 0) (ds := [lM V]) (cs := ns.map D.int) (cs' := k.map D.int) (fn_changed W) (EA.cons (EV.nm 0) (EA.cons (EV.nm 3) EA.nil)) rfl ⟨rfl, hrun⟩) (ar hl ul t.1)))))))
  obtain ⟨b3, hb3⟩ : ∃ b : Bool, b = (decide ((kd : Int) = 3) || (decide ((r : Int) = (n : Int)) && inI (kd : Int) [5, 6, 7])) := ⟨_, rfl⟩
  have c3 : ∀ {M : Mem} {q : Out} {rest : List Stmt}, (b3 = true → SB C (thenOf (ob.getD 4 (.Pass ⟨0, 0, 0, 0⟩))) (F .no .no) M q) → (b3 = false → SB C rest (F .no .no) M q) → q.ends = true → SB C (ob.getD 4 (.Pass ⟨0, 0, 0, 0⟩) :: rest) (F .no .no) M q := fun {M q rest} h1 h2 he => SB.guard (k := b3) (M1 := M) (ET.to (EW.et (EW.or (k1 := decide ((kd : Int) = 3)) (k2 := decide ((r : Int) = (n : Int)) && inI (kd : Int) [5, 6, 7]) (ET.cm (EV.nm 5) EV.int CS.eqI) (fun _ => EW.or1 (EW.et (EW.and (k1 := decide ((r : Int) = (n : Int))) (k2 := inI (kd : Int) [5, 6, 7]) (ET.cm (EV.nm 4) (EV.nm 6) CS.eqI) (fun _ => EW.and1 (ET.cm (EV.nm 5) (EV.tup (ds := ([5, 6, 7] : List Int).map D.int) (EA.cons EV.int (EA.cons EV.int (EA.cons EV.int EA.nil))) (by decide)) CS.inIT)) (fun _ => rfl)))) (fun _ => rfl))) hb3.symm) h1 h2 he
  by_cases h3 : b3 = true
  · obtain ⟨d, k, hd, hrun⟩ := deed_run W hn ns
    obtain ⟨o, ho, hs, rfl⟩ := hd.op
    refine fin (k := k) (d := .tup [tM (ledF o H), tM (ledF o U), tM (V.map (undF o))]) (fun A _ => lit_tab up_bn ((led_bn tH ho hs bH).mono bK) ((led_bn tU ho hs bU).mono bK) ((und_bn tV' ho hs bV).mono bK) A) (no (by omega) (no (by omega) (no (by omega) (c3 (fun _ => ?_) (fun z => by rw [h3] at z; cases z) rfl))))
    exact SB.cons (E1 := F (.dat o.d) .no) (M1 := [rowC k]) (ST.set 7 (EV.call1' (n := 0) (ds := [.int (n : Int)]) (cs := ns.map D.int) (cs' := k.map D.int) (fn_deed W) (EA.cons (EV.nm 0) (EA.cons (EV.nm 6) EA.nil)) rfl ⟨rfl, hrun⟩) c_law_other.nd) (SB.one (ST.ret (EV.c3 (ok_law_paper W) (EV.c2 (ok_law_lead W) (EV.nm 1) (EV.nm 7) (lead_arg tH hn.2 hw.2 ho hs bH (by decide))) (EV.c2 (ok_law_lead W) (EV.nm 2) (EV.nm 7) (lead_arg tU hn.2 hn.2 ho hs bU (by decide))) (EV.c2 (ok_law_undo W) (EV.nm 3) (EV.nm 7) (undo_arg tV' hn.2 ho hs bV (by decide))) (ar (led_tb tH ho).1 (led_tb tU ho).1 (by rw [List.length_map]; exact vl)))))
  have h3' : b3 = false := by simpa using h3
  have key : ∀ {d : D} {k : List Int}, (∀ A, Tb A n w → Lit A d) → SB C (ob.drop 5) (F .no .no) [rowC ns] (.rt (.dat d) [rowC k]) → ∃ d ns', (∀ A, Tb A n w → Lit A d) ∧ Run g n_law_other s_law_other 2 [.adr 0, .dat (lM H), .dat (lM U), .dat (lM V), .dat (.int (r : Int)), .dat (.int (kd : Int))] [rowC ns] (.dat d) [rowC ns'] := fun {d k} h1 h2 => fin h1 (no (by omega) (no (by omega) (no (by omega) (c3 (fun z => by rw [h3'] at z; cases z) (fun _ => h2) rfl))))
  by_cases k4 : kd = 4
  · exact key (fun A _ => lit_tab up_bn H0 V0 U0 A) (yes (by omega) (SB.one (ST.ret (EV.c3 (ok_law_paper W) (EV.nm 1) (EV.nm 3) (EV.nm 2) (ar hl vl ul)))))
  have hb : (decide ((kd : Int) = 3) || (decide ((r : Int) = (n : Int)) && inI (kd : Int) [5, 6, 7])) = false := hb3.symm.trans h3'
  have hlt : kd = 5 ∨ kd = 6 ∨ kd = 7 → r < n := fun h => by
    rcases Nat.lt_or_ge r n with z | z
    · exact z
    · rw [decide_eq_true (show (r : Int) = (n : Int) by omega), Bool.true_and] at hb
      rcases h with rfl | rfl | rfl <;> exact absurd hb (by decide)
  by_cases k5 : kd = 5
  · obtain ⟨o, k, ho, hs, _, hrun⟩ := still_run W (n := n) hn.2 (hlt (.inl k5)) ns
    have hs1 : o.sm (2 ^ 100) := by
      cases o with
      | add i j x => exact Nat.le_trans hs (by decide)
      | _ => exact True.intro
    exact key (k := k) (fun A _ => lit_tab up_bn H0 ((led_bn tU ho hs1 bU).mono bK) V0 A) (no (by omega) (yes (by omega) (SB.one (ST.ret (EV.c3 (ok_law_paper W) (EV.nm 1) (EV.c2 (ok_law_lead W) (EV.nm 2) (EV.call1' (n := 0) (ds := [.int (n : Int), .int (r : Int)]) (cs := ns.map D.int) (cs' := k.map D.int) (fn_still W) (EA.cons (EV.nm 0) (EA.cons (EV.nm 6) (EA.cons (EV.nm 4) EA.nil))) rfl ⟨rfl, hrun⟩) (lead_arg tU hn.2 hn.2 ho hs1 bU (by decide))) (EV.nm 3) (ar hl (led_tb tU ho).1 vl))))))
  by_cases k6 : kd = 6
  · obtain ⟨o, k, ho, hs, _, hrun⟩ := still_run W (n := n) hn.2 (hlt (.inr (.inl k6))) ns
    have hs1 : o.sm (2 ^ 100) := by
      cases o with
      | add i j x => exact Nat.le_trans hs (by decide)
      | _ => exact True.intro
    exact key (k := k) (fun A _ => lit_tab up_bn H0 U0 ((und_bn tV' ho hs1 bV).mono bK) A) (no (by omega) (no (by omega) (yes (by omega) (SB.one (ST.ret (EV.c3 (ok_law_paper W) (EV.nm 1) (EV.nm 2) (EV.c2 (ok_law_undo W) (EV.nm 3) (EV.call1' (n := 0) (ds := [.int (n : Int), .int (r : Int)]) (cs := ns.map D.int) (cs' := k.map D.int) (fn_still W) (EA.cons (EV.nm 0) (EA.cons (EV.nm 6) (EA.cons (EV.nm 4) EA.nil))) rfl ⟨rfl, hrun⟩) (undo_arg tV' hn.2 ho hs1 bV (by decide))) (ar hl ul (by rw [List.length_map]; exact vl))))))))
  by_cases k7 : kd = 7
  · have hrn := hlt (.inr (.inr k7))
    have p0 := tk_pos (ns := ns) (b := (n : Int) - (r : Int)) (by omega)
    obtain ⟨z, ez⟩ : ∃ z : Nat, (r : Int) + tk ns ((n : Int) - (r : Int)) = (z : Int) := ⟨((r : Int) + tk ns ((n : Int) - (r : Int))).toNat, by omega⟩
    have hz : z < U.length := by omega
    let U2 : List (List Int) := U.take z ++ [(U.getD z []).map fun x => 3 * x] ++ U.drop (z + 1)
    have hU2 : U2.length = n := by
      show (U.take z ++ [_] ++ U.drop (z + 1)).length = n
      rw [List.length_append, List.length_append, List.length_take, List.length_drop, List.length_singleton]
      omega
    have bU2 : Bn U2 90 := Bn.of fun q hq x hx => by
      rcases List.mem_append.mp hq with h1 | h1
      · rcases List.mem_append.mp h1 with h2 | h2
        · exact Nat.le_trans (bU.mem q (List.mem_of_mem_take h2) x hx) (by decide)
        · rw [List.mem_singleton.mp h2] at hx
          obtain ⟨y, hy, rfl⟩ := List.mem_map.mp hx
          have := bU.mem _ (mem_getD hz) y hy
          omega
      · exact Nat.le_trans (bU.mem q (List.mem_of_mem_drop h1) x hx) (by decide)
    refine key (k := dl 1 ns) (d := .tup [tM H, tM U2, tM V]) (fun A _ => lit_tab up_bn H0 (bU2.mono b90) V0 A) (no (by omega) (no (by omega) (no (by omega) (yes (by omega) ?_))))
    refine SB.cons (E1 := F .no (.dat (.int (z : Int)))) (M1 := [rowC (dl 1 ns)]) (ST.set 8 (EV.to (EV.add (EV.nm 4) (ev_tk (ns := ns) (j := (n : Int) - (r : Int)) TK (EV.nm 0) (EV.sub (EV.nm 6) (EV.nm 4)) rfl (by omega))) (by rw [ez])) c_law_other.nd) ?_
    refine SB.one (ST.ret (EV.c3 (ok_law_paper W) (EV.nm 1) (EV.to (o := .dat (.lst ((U.take z).map lV ++ [lV ((U.getD z []).map fun x => 3 * x)] ++ (U.drop (z + 1)).map lV))) ?_ ?_) (EV.nm 3) (ar hl hU2 vl)))
    · have e1 : cutD (U.map lV) none (some (z : Int)) = (U.take z).map lV := by rw [cut_take (by rw [List.length_map]; omega), List.map_take]
      have e2 : cutD (U.map lV) (some ((z : Int) + 1)) none = (U.drop (z + 1)).map lV := by
        rw [show ((z : Int) + 1) = ((z + 1 : Nat) : Int) by omega, cut_drop (by rw [List.length_map]; omega), List.map_drop]
      rw [← e1, ← e2]
      exact EV.bin (EV.bin (EV.slL (EV.nm 2) EO.none (EO.some (EV.nm 8))) (EV.lst (ds := [lV ((U.getD z []).map fun x => 3 * x)]) (EA.cons (EV.to (LC.ev (LC.lM 9 (xs := U.getD z []) (f := D.int) (g := fun x => .int (3 * x)) (own := [("x", 9)]) (by rfl) c_law_other.nd rfl (EV.ix (EV.nm 2) (EV.nm 8) (ix_lM hz)) rfl (Nat.le_refl _) OkM.refl (by rw [tU.2 _ (mem_getD hz)]; omega) (fun x hx M => EV.mul EV.int (EV.nm 9) (mul_okL (by decide))))) (by rw [lV_map])) EA.nil) (by show 1 ≤ 100000; decide)) (BS.addL (by rw [e1, List.length_map, List.length_take]; show _ + 1 ≤ _; omega))) (EV.slL (EV.nm 2) (EO.some (EV.add (EV.nm 8) EV.int)) EO.none) (BS.addL (by rw [e1, e2, List.length_append, List.length_map, List.length_map, List.length_take, List.length_drop]; show _ + 1 + _ ≤ _; omega))
    · show O.dat (.lst _) = O.dat (.lst (U2.map lV))
      show _ = O.dat (.lst ((U.take z ++ [(U.getD z []).map fun x => 3 * x] ++ U.drop (z + 1)).map lV))
      rw [List.map_append, List.map_append]
      rfl
  · have p19 := tk_pos (ns := ns) (b := 19) (by decide)
    obtain ⟨z, ez⟩ : ∃ z : Nat, tk ns 19 = (z : Int) := ⟨(tk ns 19).toNat, by omega⟩
    have hz : z < 19 := by omega
    have hd : (W19 H U V).getD z .non ∈ W19 H U V := mem_getD (show z < (W19 H U V).length from hz)
    exact key (k := dl 1 ns) (fun A tA H' U' V' hs => absurd hs (W19_no tH tU tV' hn.1 _ hd A tA H' U' V')) (no (by omega) (no (by omega) (no (by omega) (no (by omega) (SB.one (ST.ret (EV.c2 (ok_law_bent W) (EV.to (ev_tk (ns := ns) TK (EV.nm 0) EV.int rfl (by decide)) (by rw [ez])) (EV.c3 (ok_law_paper W) (EV.nm 1) (EV.nm 2) (EV.nm 3) (ar hl ul vl)) ⟨z, H, U, V, n, w, hz, rfl, rfl, tH, tU, tV', hn, rfl⟩)))))))
theorem fn_other (W : Wd g) : FN g "_law_other" 3 (fun os M o M' => os.length = 6 ∧ Run g n_law_other s_law_other 2 os M o M') := FN.run (ps := ["row", "h", "u", "v", "r", "kind"]) W.t_law_other c_law_other (fun _ _ _ _ _ _ us hl => match us, hl with | [_, _, _, _, _, _], _ => rfl)
end
end
section
section
theorem sumN_bound {f : Nat → Int} {B : Nat} : ∀ n, (∀ k, k < n → (f k).natAbs ≤ B) → (sumN n f).natAbs ≤ n * B
  | 0, _ => by show (0 : Int).natAbs ≤ _; simp
  | n + 1, h => by
    have h1 := sumN_bound n fun k hk => h k (by omega)
    have h2 := h n (by omega)
    show (sumN n f + f n).natAbs ≤ _
    rw [Nat.add_mul, Nat.one_mul]
    omega
end
section
variable {g : Pg}
theorem mul_bn {a b : List (List Int)} {n p w A B : Nat} (ta : Tb a n p) (tb : Tb b p w) (hp : 0 < p) (ha : Bn a A) (hb : Bn b B) : Bn (mulM a b) (p * (A * B)) := fun i j => by
  rw [gE_mul ta tb hp]
  refine sumN_bound p fun k _ => ?_
  rw [Int.natAbs_mul]
  exact Nat.mul_le_mul (ha i k) (hb k j)
theorem find_ins {l : List D} {w : D} {f : D → Bool} {p : Nat} (hl : ∀ x ∈ l, f x = false) (hw : f w = true) (hp : p ≤ l.length) : (l.take p ++ [w] ++ l.drop p).findIdx? f = some p := by
  rw [List.append_assoc, List.findIdx?_append]
  have h0 : (l.take p).findIdx? f = none := List.findIdx?_eq_none_iff.mpr fun x hx => by rw [hl x (List.mem_of_mem_take hx)]
  rw [h0, List.length_take, Nat.min_eq_left hp]
  show Option.map _ ((w :: l.drop p).findIdx? f) = _
  rw [List.findIdx?_cons, hw]
  simp
theorem mild_no {w : Str} {ds : List D} (h : w ≠ "product") (hl : ds.length < 1000) : Mild (.tup (.str w :: ds)) := ⟨fun es e => by
  rw [← D.tup.inj e, List.length_cons]
  omega, fun _ a b c e => by
  have := D.tup.inj e
  injection this with h1 _
  exact absurd (D.str.inj h1) h⟩
theorem good_same {a b : List (List Int)} (ha : W64 a) (hb : W64 b) : goodB (.tup [.str "same", tM a, tM b]) = decide (a = b) := good_of (CL.same ha hb)
theorem good_ech {a : List (List Int)} (ha : W64 a) : goodB (.tup [.str "echelon", tM a]) = echB a := good_of (CL.echelon ha)
abbrev clb : List Stmt := defBody s_law_claimed
theorem claimed_run (W : Wd g) {a h u v : List (List Int)} {n w : Nat} (ta : Tb a n w) (th : Tb h n w) (hn : 1 ≤ n ∧ n ≤ 8) (hw : 1 ≤ w ∧ w ≤ 8) (hP : Pr u v n) (e1 : mulM u a = h) (e2 : mulM v h = a) (he : echB h = true) (ba : Bn a 3000) (bh : Bn h 12) (bu : Bn u 30) (bv : Bn v 30) (ns : List Int) : ∃ ns', Run g n_law_claimed s_law_claimed 6 [.adr 0, .dat (lM a), .dat (lM h), .dat (lM u), .dat (lM v)] [rowC ns] (.dat (.bl true)) [rowC ns'] := by
  have TK := ok_law_take W
  let C := mkC g n_law_claimed s_law_claimed 6
  obtain ⟨wa, ea⟩ := ta.w64 hn hw
  obtain ⟨wh, eh⟩ := th.w64 hn hw
  obtain ⟨wu, eu⟩ := hP.tu.w64 hn hn
  obtain ⟨wv, ev⟩ := hP.tv.w64 hn hn
  obtain ⟨wI, _⟩ := (unit_tb (n := n)).w64 hn hn
  have la := ta.1
  have lh := th.1
  have lu := hP.tu.1
  have lv := hP.tv.1
  have Ba : Big a := (ba.bd (by decide)).big
  have Bh : Big h := (bh.bd (by decide)).big
  have Bu : Big u := (bu.bd (by decide)).big
  have Bv : Big v := (bv.bd (by decide)).big
  let c1 : D := prD u a h
  let c2 : D := prD v h a
  let c3 : D := prD u v (unitM n)
  let c4 : D := .tup [.str "echelon", tM h]
  have g1 : goodB c1 = true := by rw [good_prod wu wa wh (by rw [eu, la])]; exact decide_eq_true e1
  have g2 : goodB c2 = true := by rw [good_prod wv wh wa (by rw [ev, lh])]; exact decide_eq_true e2
  have g3 : goodB c3 = true := by rw [good_prod wu wv wI (by rw [eu, lv])]; exact decide_eq_true hP.uv
  have g4 : goodB c4 = true := by rw [good_ech wh]; exact he
  have m1 : Mild c1 := mild_prod (Bu.mul Ba)
  have m2 : Mild c2 := mild_prod (Bv.mul Bh)
  have m3 : Mild c3 := mild_prod (Bu.mul Bv)
  have m4 : Mild c4 := mild_no (by decide) (by show 1 < 1000; decide)
  let L : List D := [c1, c2, c3, c4]
  have gL : ∀ x ∈ L, goodB x = true := fun x hx => by
    simp only [L, List.mem_cons, List.not_mem_nil, or_false] at hx
    rcases hx with rfl | rfl | rfl | rfl <;> assumption
  have mL : ∀ x ∈ L, Mild x := fun x hx => by
    simp only [L, List.mem_cons, List.not_mem_nil, or_false] at hx
    rcases hx with rfl | rfl | rfl | rfl <;> assumption
  have hL : L.length = 4 := rfl
  have eL : [c1, c2] ++ [c3, c4] = L := rfl
  have wL : wrongD (.tup L) = .non := by
    show optN (L.findIdx? fun c => !goodB c) = _
    rw [List.findIdx?_eq_none_iff.mpr fun x hx => by rw [gL x hx]; rfl]
    rfl
  have mM : Milds (.tup L) := fun ds e => by
    rw [← D.tup.inj e]
    exact ⟨by rw [hL]; decide, mL⟩
  clear_value L
  obtain ⟨i, j, δ, k1, hi, hj, hd, hd5, run1⟩ := changed_run W th hn hw ns
  obtain ⟨bad, ebad⟩ : ∃ b, b = chg h i j δ := ⟨_, rfl⟩
  have tbad : Tb bad n w := ebad ▸ chg_tb th hi
  have nbad : bad ≠ h := ebad ▸ chg_ne th hi hj hd
  have lb := tbad.1
  obtain ⟨wb, _⟩ := tbad.w64 hn hw
  rw [← ebad] at run1
  obtain ⟨i2, j2, δ2, k2, hi2, hj2, hdd, hdd5, run2⟩ := changed_run W (unit_tb (n := n)) hn hn k1
  obtain ⟨J, eJ⟩ : ∃ b, b = chg (unitM n) i2 j2 δ2 := ⟨_, rfl⟩
  have tJ : Tb J n n := eJ ▸ chg_tb unit_tb hi2
  have nJ : J ≠ unitM n := eJ ▸ chg_ne unit_tb hi2 hj2 hdd
  have lJ := tJ.1
  obtain ⟨wJ, _⟩ := tJ.w64 hn hn
  rw [← eJ] at run2
  let Z : List (List Int) := [[0, 0], [0, 1]]
  have wZ : W64 Z := ⟨by decide, by decide, by decide⟩
  let Wr : List D := [prD u a bad, .tup [.str "same", tM bad, tM h], prD v u J, .tup [.str "echelon", tM Z]]
  have bW : ∀ x ∈ Wr, goodB x = false := fun x hx => by
    simp only [Wr, List.mem_cons, List.not_mem_nil, or_false] at hx
    rcases hx with rfl | rfl | rfl | rfl
    · rw [good_prod wu wa wb (by rw [eu, la]), e1]
      exact decide_eq_false fun z => nbad z.symm
    · rw [good_same wb wh]
      exact decide_eq_false nbad
    · rw [good_prod wv wu wJ (by rw [ev, lu]), hP.vu]
      exact decide_eq_false fun z => nJ z.symm
    · rw [good_ech wZ]
      decide
  have mW : ∀ x ∈ Wr, Mild x := fun x hx => by
    simp only [Wr, List.mem_cons, List.not_mem_nil, or_false] at hx
    rcases hx with rfl | rfl | rfl | rfl
    · exact mild_prod (Bu.mul Ba)
    · exact mild_no (by decide) (by show 2 < 1000; decide)
    · exact mild_prod (Bv.mul Bu)
    · exact mild_no (by decide) (by show 1 < 1000; decide)
  have p4 := tk_pos (ns := k2) (b := 4) (by decide)
  have p5 := tk_pos (ns := dl 1 k2) (b := 5) (by decide)
  obtain ⟨q, eq⟩ : ∃ q : Nat, tk k2 4 = (q : Int) := ⟨(tk k2 4).toNat, by omega⟩
  obtain ⟨p, ep⟩ : ∃ p : Nat, tk (dl 1 k2) 5 = (p : Int) := ⟨(tk (dl 1 k2) 5).toNat, by omega⟩
  have hq : q < Wr.length := by show q < 4; omega
  have hp : p ≤ L.length := by omega
  have hwr : Wr.getD q .non ∈ Wr := mem_getD hq
  have atW : ixD (.lst Wr) (q : Int) = some (Wr.getD q .non) := atI_nat (atO_get hq)
  let wr : D := Wr.getD q .non
  have gw : goodB wr = false := bW _ hwr
  have mw : Mild wr := mW _ hwr
  let L2 : List D := L.take p ++ [wr] ++ L.drop p
  have l2 : L2.length = 5 := by
    show (L.take p ++ [wr] ++ L.drop p).length = 5
    rw [List.length_append, List.length_append, List.length_take, List.length_drop, List.length_singleton]
    omega
  have w2 : wrongD (.tup L2) = .int (p : Int) := by
    show optN (L2.findIdx? fun c => !goodB c) = _
    rw [find_ins (f := fun c => !goodB c) (fun x hx => by rw [gL x hx]; rfl) (by rw [gw]; rfl) hp]
    rfl
  have mM2 : Milds (.tup L2) := fun ds e => by
    rw [← D.tup.inj e]
    refine ⟨by rw [l2]; decide, fun x hx => ?_⟩
    rcases List.mem_append.mp hx with hx | hx
    · rcases List.mem_append.mp hx with hx | hx
      · exact mL x (List.mem_of_mem_take hx)
      · rw [List.mem_singleton.mp hx]; exact mw
    · exact mL x (List.mem_of_mem_drop hx)
  let F : O → O → O → O → List O := fun gd bd wg pl => [.adr 0, .dat (lM a), .dat (lM h), .dat (lM u), .dat (lM v), .dat (.int (n : Int)), gd, bd, wg, pl]
  have sm : ∀ n : Nat, n ≤ 100 → n ≤ 100000 := fun n h => by omega
  let Mk : List Int → Mem := fun k => [rowC k, some (L.map .dat)]
  refine ⟨dl 2 k2, Nat.le_refl _, True.intro, lowR, [none], ?_⟩
  refine SB.cons (E1 := F .no .no .no .no) (M1 := [rowC ns]) (ST.set 5 (EV.to (EV.len (EV.nm 1) len_lM W.b.len) (by rw [la])) c_law_claimed.nd) ?_
  refine SB.cons (E1 := F (.dat (.lst [c1, c2])) .no .no .no) (M1 := [rowC ns]) (ST.set 6 (EV.lst (ds := [c1, c2]) (EA.cons (EV.tup (ds := [.str "product", tM u, tM a, tM h]) (EA.cons EV.str (EA.cons (EV.c1 (ok_law_rows W) (EV.nm 3) ⟨u, sq_l, by omega, rfl⟩) (EA.cons (EV.c1 (ok_law_rows W) (EV.nm 1) ⟨a, sq_l, by omega, rfl⟩) (EA.cons (EV.c1 (ok_law_rows W) (EV.nm 2) ⟨h, sq_l, by omega, rfl⟩) EA.nil)))) (sm 4 (by decide))) (EA.cons (EV.tup (ds := [.str "product", tM v, tM h, tM a]) (EA.cons EV.str (EA.cons (EV.c1 (ok_law_rows W) (EV.nm 4) ⟨v, sq_l, by omega, rfl⟩) (EA.cons (EV.c1 (ok_law_rows W) (EV.nm 2) ⟨h, sq_l, by omega, rfl⟩) (EA.cons (EV.c1 (ok_law_rows W) (EV.nm 1) ⟨a, sq_l, by omega, rfl⟩) EA.nil)))) (sm 4 (by decide))) EA.nil)) (sm 2 (by decide))) c_law_claimed.nd) ?_
  refine SB.cons (E1 := F (.adr 1) .no .no .no) (M1 := Mk ns) (ST.to (ST.set 6 (EV.bin (EV.nm 6) (EV.lst (ds := [c3, c4]) (EA.cons (EV.tup (ds := [.str "product", tM u, tM v, tM (unitM n)]) (EA.cons EV.str (EA.cons (EV.c1 (ok_law_rows W) (EV.nm 3) ⟨u, sq_l, by omega, rfl⟩) (EA.cons (EV.c1 (ok_law_rows W) (EV.nm 4) ⟨v, sq_l, by omega, rfl⟩) (EA.cons (EV.c1 (ok_law_rows W) (EV.c1 (ok_law_unit W) (EV.nm 5) ⟨n, by omega, rfl, rfl⟩) ⟨unitM n, sq_l, by rw [unit_len]; omega, rfl⟩) EA.nil)))) (sm 4 (by decide))) (EA.cons (EV.tup (ds := [.str "echelon", tM h]) (EA.cons EV.str (EA.cons (EV.c1 (ok_law_rows W) (EV.nm 2) ⟨h, sq_l, by omega, rfl⟩) EA.nil)) (sm 2 (by decide))) EA.nil)) (sm 2 (by decide))) (BS.addLN (by show 2 + 2 ≤ _; omega))) c_law_claimed.nd) (by rw [eL]; rfl)) ?_
  refine SB.cons (E1 := F (.adr 1) .no .no .no) (M1 := Mk ns) (ST.no (ET.to (EW.et (EW.or (k1 := false) (k2 := false) (ET.to (ET.cm (EV.c1 (ok_takes W) (EV.tupleC (nn := 1) (ds := L) (EV.nm 6) rfl W.b.tuple) ⟨mM, rfl⟩) EV.bl CS.isnotB) (by rw [wL]; rfl)) (fun _ => EW.or1 (ET.to (ET.notN (EV.c1 (ok_first_wrong W) (EV.tupleC (nn := 1) (ds := L) (EV.nm 6) rfl W.b.tuple) ⟨mM, rfl⟩)) (by rw [wL]; rfl))) (fun z => nomatch z))) rfl) SB.nil) ?_
  refine SB.cons (E1 := F (.adr 1) (.dat (lM bad)) .no .no) (M1 := Mk k1) (ST.set 7 (EV.call1' (n := 0) (ds := [lM h]) (cs := ns.map D.int) (cs' := k1.map D.int) (M' := Mk k1) (fn_changed W) (EA.cons (EV.nm 0) (EA.cons (EV.nm 2) EA.nil)) rfl ⟨rfl, run1⟩) c_law_claimed.nd) ?_
  refine SB.cons (E1 := F (.adr 1) (.dat (lM bad)) (.dat wr) .no) (M1 := Mk (dl 1 k2)) (ST.set 8 (EV.ix (EV.lst (ds := Wr) (EA.cons (EV.tup (ds := [.str "product", tM u, tM a, tM bad]) (EA.cons EV.str (EA.cons (EV.c1 (ok_law_rows W) (EV.nm 3) ⟨u, sq_l, by omega, rfl⟩) (EA.cons (EV.c1 (ok_law_rows W) (EV.nm 1) ⟨a, sq_l, by omega, rfl⟩) (EA.cons (EV.c1 (ok_law_rows W) (EV.nm 7) ⟨bad, sq_l, by omega, rfl⟩) EA.nil)))) (sm 4 (by decide))) (EA.cons (EV.tup (ds := [.str "same", tM bad, tM h]) (EA.cons EV.str (EA.cons (EV.c1 (ok_law_rows W) (EV.nm 7) ⟨bad, sq_l, by omega, rfl⟩) (EA.cons (EV.c1 (ok_law_rows W) (EV.nm 2) ⟨h, sq_l, by omega, rfl⟩) EA.nil))) (sm 3 (by decide))) (EA.cons (EV.tup (ds := [.str "product", tM v, tM u, tM J]) (EA.cons EV.str (EA.cons (EV.c1 (ok_law_rows W) (EV.nm 4) ⟨v, sq_l, by omega, rfl⟩) (EA.cons (EV.c1 (ok_law_rows W) (EV.nm 3) ⟨u, sq_l, by omega, rfl⟩) (EA.cons (EV.c1 (ok_law_rows W) (EV.call1' (n := 0) (ds := [lM (unitM n)]) (cs := k1.map D.int) (cs' := k2.map D.int) (M' := Mk k2) (fn_changed W) (EA.cons (EV.nm 0) (EA.cons (EV.c1 (ok_law_unit W) (EV.nm 5) ⟨n, by omega, rfl, rfl⟩) EA.nil)) rfl ⟨rfl, run2⟩) ⟨J, sq_l, by omega, rfl⟩) EA.nil)))) (sm 4 (by decide))) (EA.cons (EV.tup (ds := [.str "echelon", tM Z]) (EA.cons EV.str (EA.cons (EV.tup (ds := [tV [0, 0], tV [0, 1]]) (EA.cons (EV.to (EV.bin (EV.tup (ds := [.int 0]) (EA.cons EV.int EA.nil) (sm 1 (by decide))) EV.int (BS.mulT (by simp) (by decide) (by decide) (by show 1 ≤ 1000; decide))) rfl) (EA.cons (EV.tup (ds := [.int 0, .int 1]) (EA.cons EV.int (EA.cons EV.int EA.nil)) (sm 2 (by decide))) EA.nil)) (sm 2 (by decide))) EA.nil)) (sm 2 (by decide))) EA.nil)))) (sm 4 (by decide))) (EV.to (ev_tk (ns := k2) (M' := Mk (dl 1 k2)) TK (EV.nm 0) EV.int rfl (by decide)) (by rw [eq])) atW) c_law_claimed.nd) ?_
  refine SB.cons (E1 := F (.adr 1) (.dat (lM bad)) (.dat wr) (.dat (.int (p : Int)))) (M1 := Mk (dl 2 k2)) (ST.set 9 (EV.to (ev_tk (ns := dl 1 k2) (M' := Mk (dl 2 k2)) TK (EV.nm 0) EV.int rfl (by decide)) (by rw [ep])) c_law_claimed.nd) ?_
  refine SB.cons (E1 := F (.adr 1) (.dat (lM bad)) (.dat wr) (.dat (.int (p : Int)))) (M1 := [rowC (dl 2 k2), some (L2.map .dat)]) (ST.to (ST.exp (EV.insert (n := 1) (ps := L.map .dat) (ps1 := L.map .dat) (EV.nm 6) (EV.nm 9) (EV.nm 8) rfl rfl (by rw [List.length_map, hL]; decide) (by omega))) ?_) ?_
  · show Out.nx _ [rowC (dl 2 k2), some ((L.map O.dat).take ((p : Int)).toNat ++ [O.dat wr] ++ (L.map O.dat).drop ((p : Int)).toNat)] = Out.nx _ [rowC (dl 2 k2), some ((L.take p ++ [wr] ++ L.drop p).map O.dat)]
    rw [Int.toNat_natCast, ← List.map_take, ← List.map_drop, List.map_append, List.map_append]
    rfl
  · refine SB.fz (jj := 6) (nn := 1) (ds := L2) rfl rfl ?_
    exact SB.one (ST.ret (EV.to (EV.and (k1 := true) (k2 := true) (EV.to (EV.cm (EV.c1 (ok_takes W) (EV.tuple (EV.nm 6) rfl W.b.tuple) ⟨mM2, rfl⟩) EV.bl CS.isB) (by rw [w2]; rfl)) (fun _ => EV.and1 (ev_like W (n := 0) (d := .int (p : Int)) rfl (EV.to (EV.c1 (ok_first_wrong W) (EV.tuple (EV.nm 6) rfl W.b.tuple) ⟨mM2, rfl⟩) (by rw [w2])) (EV.nm 9) True.intro (by rfl))) (fun z => nomatch z)) rfl))
theorem fn_claimed (W : Wd g) : FN g "_law_claimed" 7 (fun os M o M' => os.length = 5 ∧ Run g n_law_claimed s_law_claimed 6 os M o M') := FN.run (ps := ["row", "a", "h", "u", "v"]) W.t_law_claimed c_law_claimed (fun _ _ _ _ _ _ us hl => match us, hl with | [_, _, _, _, _], _ => rfl)
end
end
section
section
variable {g : Pg}
theorem mx_of {a : List (List Int)} {n w : Nat} (t : Tb a n w) (hn : 1 ≤ n ∧ n ≤ 8) (hw : 1 ≤ w ∧ w ≤ 8) (hb : Bn a 1000000) : Mx a := by
  have e := tb_wd t (by omega)
  have l := t.1
  exact ⟨by omega, by omega, by omega, by omega, fun q hq => by rw [e]; exact t.2 q hq, fun q hq x hx => by have := hb.mem q hq x hx; omega⟩
abbrev pap (h u v : List (List Int)) : D := .tup [tM h, tM u, tM v]
theorem pap_shape {a h u v : List (List Int)} {n w : Nat} (ta : Tb a n w) (hn : 0 < n) (th : Tb h n w) (tu : Tb u n n) (tv : Tb v n n) : Shape a (pap h u v) h u v := ⟨rfl, by rw [ta.1, tb_wd ta hn]; exact th, by rw [ta.1]; exact tu, by rw [ta.1]; exact tv⟩
open Classical in
theorem pap_yes {a h u v : List (List Int)} {n w : Nat} (ta : Tb a n w) (hn : 0 < n) (th : Tb h n w) (tu : Tb u n n) (tv : Tb v n n) (hi : inB h = true) (e1 : mulM u a = h) (e2 : mulM v h = a) (e3 : mulM u v = unitM n) : holdsB a (pap h u v) = true := by
  rw [holds_yes (pap_shape ta hn th tu tv)]
  exact decide_eq_true ⟨hi, e1, e2, by rw [ta.1]; exact e3⟩
open Classical in
theorem pap_no {a h u v : List (List Int)} {n w : Nat} (ta : Tb a n w) (hn : 0 < n) (th : Tb h n w) (tu : Tb u n n) (tv : Tb v n n) (hh : mulM v h ≠ a ∨ mulM u v ≠ unitM n) : holdsB a (pap h u v) = false := by
  rw [holds_yes (pap_shape ta hn th tu tv)]
  refine decide_eq_false fun ⟨_, _, e2, e3⟩ => ?_
  rw [ta.1] at e3
  rcases hh with z | z
  · exact z e2
  · exact z e3
theorem chg_not {u v : List (List Int)} {n i j : Nat} {δ : Int} (hP : Pr u v n) (hn : 0 < n) (hi : i < n) (hj : j < n) (hd : δ ≠ 0) : mulM (chg u i j δ) v ≠ unitM n := fun e => by
  have tc : Tb (chg u i j δ) n n := chg_tb hP.tu hi
  have z : ∀ b, b < n → gE v j b = 0 := fun b hb => by
    have h1 : gE (mulM (chg u i j δ) v) i b = gE (mulM u v) i b + δ * gE v j b := by
      rw [gE_mul tc hP.tv hn, gE_mul hP.tu hP.tv hn]
      have e2 : δ * gE v j b = sumN n fun k => if k = j then δ * gE v j b else 0 := by rw [sumN_at, if_pos hj]
      rw [e2, ← sumN_add]
      refine sumN_congr n fun k _ => ?_
      rw [gE_chg hP.tu hi hj]
      by_cases hk : k = j
      · rw [if_pos ⟨rfl, hk⟩, if_pos hk, hk, Int.add_mul]
      · rw [if_neg (fun z => hk z.2), if_neg hk, Int.add_zero, Int.add_zero]
    rw [e, hP.uv] at h1
    have : δ * gE v j b = 0 := by omega
    rcases Int.mul_eq_zero.mp this with h | h
    · exact absurd h hd
    · exact h
  have h2 : gE (mulM v u) j j = 0 := by
    rw [gE_mul hP.tv hP.tu hn, ← sumN_zero n]
    exact sumN_congr n fun k hk => by rw [z k hk, Int.zero_mul]
  rw [hP.vu, gE_unit, if_pos ⟨hj, hj⟩, dlt_self] at h2
  omega
abbrev rfb : List Stmt := defBody s_law_refused
theorem refused_run (W : Wd g) {a h u v : List (List Int)} {n w r : Nat} {pc : Nat → Nat} (ta : Tb a n w) (f : HF h w r pc) (hl : h.length = n) (hn : 1 ≤ n ∧ n ≤ 8) (hw : 1 ≤ w ∧ w ≤ 8) (hP : Pr u v n) (e1 : mulM u a = h) (e2 : mulM v h = a) (ba : Bn a 3000) (bh : Bn h 12) (bu : Bn u 30) (bv : Bn v 30) (ns : List Int) : ∃ ns', Run g n_law_refused s_law_refused 7 [.adr 0, .dat (lM a), .dat (lM h), .dat (lM u), .dat (lM v), .dat (.int (r : Int))] [rowC ns] (.dat (.bl true)) [rowC ns'] := by
  have TK := ok_law_take W
  let C := mkC g n_law_refused s_law_refused 7
  have th : Tb h n w := ⟨hl, f.wid⟩
  have la := ta.1
  have lu := hP.tu.1
  have lv := hP.tv.1
  have hne : h ≠ [] := fun z => by rw [z] at hl; simp at hl; omega
  have hi := f.inB hne
  have hr : r ≤ n := by have := f.le; omega
  have s1 : Sub h a := by have := sub_mul hP.tu ta (by omega); rwa [e1] at this
  have s2 : Sub a h := by have := sub_mul hP.tv th (by omega); rwa [e2] at this
  have ma : Mx a := mx_of ta hn hw (ba.mono (by decide))
  have Ba : Big a := (ba.bd (by decide)).big
  have Bh : Big h := (bh.bd (by decide)).big
  have pa0 := tk_pos (ns := ns) (b := 9) (by decide)
  have pb0 := tk_pos (ns := dl 1 ns) (b := 3) (by decide)
  obtain ⟨kA, eA⟩ : ∃ k : Nat, tk ns 9 = (k : Int) := ⟨(tk ns 9).toNat, by omega⟩
  obtain ⟨kB, eB⟩ : ∃ k : Nat, 5 + tk (dl 1 ns) 3 = (k : Int) := ⟨(5 + tk (dl 1 ns) 3).toNat, by omega⟩
  let ks : List Nat := [0, 1, 2, 3, kA, kB, 8, 8]
  have hks : ∀ k ∈ ks, k < 9 := fun k hk => by
    simp only [ks, List.mem_cons, List.not_mem_nil, or_false] at hk
    omega
  have lks : ks.length = 8 := rfl
  have dks : ([.int 0, .int 1, .int 2, .int 3, .int (kA : Int), .int (kB : Int), .int 8, .int 8] : List D) = ks.map fun (k : Nat) => D.int (k : Int) := rfl
  clear_value ks
  let F : O → O → O → List O := fun kd vl b => [.adr 0, .dat (lM a), .dat (lM h), .dat (lM u), .dat (lM v), .dat (.int (r : Int)), kd, vl, b]
  obtain ⟨z, z0, _, zP⟩ := chain (S := List Int) (n := 8) (I := fun _ _ => True)
    (P := fun i s s' => ∃ E2, Fg E2 (F .no .no .no) ∧ SB C (bodyOf (rfb.getD 0 (.Pass ⟨0, 0, 0, 0⟩))) (F (.dat (.int (ks.getD i 0 : Int))) .no .no) [rowC s] (.nx E2 [rowC s'])) (fun i hi' s _ => by
      have hkd : ks.getD i 0 < 9 := hks _ (mem_getD (by omega))
      generalize ks.getD i 0 = kd at hkd
      obtain ⟨d, s', hL, hrun⟩ := other_run W (kd := kd) th hP.tu hP.tv hn hw hr hkd (bh.mono (by decide)) bu bv s
      refine ⟨s', ⟨F (.dat (.int (kd : Int))) (.dat d) .no, Fg.cons (Fg.cons (Fg.cons (Fg.cons (Fg.cons (Fg.cons (Fg.no (Fg.no Fg.refl))))))), ?_⟩, True.intro⟩
      refine SB.cons (E1 := F (.dat (.int (kd : Int))) (.dat d) .no) (M1 := [rowC s']) (ST.set 7 (EV.call1' (n := 0) (ds := [lM h, lM u, lM v, .int (r : Int), .int (kd : Int)]) (cs := s.map D.int) (cs' := s'.map D.int) (fn_other W) (EA.cons (EV.nm 0) (EA.cons (EV.nm 2) (EA.cons (EV.nm 3) (EA.cons (EV.nm 4) (EA.cons (EV.nm 5) (EA.cons (EV.nm 6) EA.nil)))))) rfl ⟨rfl, hrun⟩) c_law_refused.nd) ?_
      exact SB.one (ST.no (ET.to (ET.not (ET.val (ev_like W (n := 0) (d := .bl (holdsB a d)) rfl (EV.c2 (ok_hermite_holds W) (EV.c1 (ok_law_rows W) (EV.nm 1) ⟨a, sq_l, by omega, rfl⟩) (EV.nm 7) ⟨a, isM_t ma, Ba, hL a ta, rfl⟩) (EV.to (EV.c3 (ok_law_shows W) (EV.nm 1) (EV.nm 2) (EV.nm 7) ⟨a, h, n, w, rfl, rfl, ta, th, hn, hw, Ba, Bh, hL a ta, rfl⟩) (by rw [holds_shows (by omega) ta f hl s1 s2])) True.intro (by rfl)))) rfl) SB.nil)) (dl 2 ns) True.intro
  obtain ⟨i, j, δ, k1, hi', hj, hd, hd5, run1⟩ := changed_run W ta hn hw (z 8)
  obtain ⟨b, eb⟩ : ∃ b, b = chg a i j δ := ⟨_, rfl⟩
  have tb : Tb b n w := eb ▸ chg_tb ta hi'
  have nb' : b ≠ a := eb ▸ chg_ne ta hi' hj hd
  have bb : Bn b (3000 + 5) := eb ▸ chg_bn ta hi' hj ba hd5
  have lb := tb.1
  have mb : Mx b := mx_of tb hn hw (bb.mono (by decide))
  have Bb : Big b := (bb.bd (by decide)).big
  rw [← eb] at run1
  have tr : Tb a.reverse n w := ⟨by rw [List.length_reverse, la], fun q hq => ta.2 q (List.mem_reverse.mp hq)⟩
  have br : Bn a.reverse 3000 := Bn.of fun q hq => ba.mem q (List.mem_reverse.mp hq)
  have lr := tr.1
  have mr : Mx a.reverse := mx_of tr hn hw (br.mono (by decide))
  have Br : Big a.reverse := (br.bd (by decide)).big
  have lit : ∀ A, Lit A (pap h u v) := lit_tab (B := 30) (by decide) (bh.mono (by decide)) bu bv
  have pp : ∀ {E : List O} {M : Mem} {p1 p2 p3 p4 p5 : Pos}, E[2]? = some (.dat (lM h)) → E[3]? = some (.dat (lM u)) → E[4]? = some (.dat (lM v)) → EV C (.Call (.Name "_law_paper" p1) [.Name "h" p2, .Name "u" p3, .Name "v" p4] [] p5) E M (.dat (pap h u v)) M := fun {E M p1 p2 p3 p4 p5} h1 h2 h3 => EV.c3 (ok_law_paper W) (EV.nm 2 rfl h1) (EV.nm 3 rfl h2) (EV.nm 4 rfl h3) ⟨h, u, v, sq_l, sq_l, sq_l, by omega, by omega, by omega, rfl⟩
  have hb : holdsB b (pap h u v) = false := pap_no tb (by omega) th hP.tu hP.tv (.inl (by rw [e2]; exact fun z => nb' z.symm))
  have hrv : holdsB a.reverse (pap h u v) = decide (a.reverse = a) := by
    by_cases e : a.reverse = a
    · rw [decide_eq_true e, e]
      exact pap_yes ta (by omega) th hP.tu hP.tv hi e1 e2 hP.uv
    · rw [decide_eq_false e]
      exact pap_no tr (by omega) th hP.tu hP.tv (.inl (by rw [e2]; exact fun z => e z.symm))
  refine ⟨k1, Nat.le_refl _, True.intro, lowR, [], ?_⟩
  refine SB.cons (E1 := F .no .no .no) (M1 := [rowC (z 8)]) (ST.to (ST.forN 6 (n := (ks.map fun (k : Nat) => D.int (k : Int)).length) (E_ := fun _ => F .no .no .no) (M_ := fun i => [rowC (z i)]) (EI.seq (ds := ks.map fun (k : Nat) => D.int (k : Int)) (d := .lst (ks.map fun (k : Nat) => D.int (k : Int))) (EV.to (EV.lst (ds := [.int 0, .int 1, .int 2, .int 3, .int (kA : Int), .int (kB : Int), .int 8, .int 8]) (M' := [rowC (dl 2 ns)]) (EA.cons EV.int (EA.cons EV.int (EA.cons EV.int (EA.cons EV.int (EA.cons (EV.to (ev_tk (ns := ns) TK (EV.nm 0) EV.int rfl (by decide)) (by rw [eA])) (EA.cons (EV.to (EV.add EV.int (ev_tk (ns := dl 1 ns) TK (EV.nm 0) EV.int rfl (by decide))) (by rw [eB])) (EA.cons EV.int (EA.cons EV.int EA.nil)))))))) (by show 8 ≤ 100000; decide)) (by rw [dks])) rfl) Fg.refl (by rw [z0]) (fun _ _ => True.intro) c_law_refused.nd (fun i hi'' => ?_)) (by rw [List.length_map, lks])) ?_
  · have h8 : i < 8 := by rw [List.length_map, lks] at hi''; exact hi''
    rw [atO_map (by rw [lks]; exact h8)]
    have := zP i h8
    rw [show ks.getD i 0 = ks[i]'(by rw [lks]; exact h8) by rw [List.getD_eq_getElem?_getD, List.getElem?_eq_getElem (by rw [lks]; exact h8)]; rfl] at this
    exact this
  refine SB.cons (E1 := F .no .no (.dat (lM b))) (M1 := [rowC k1]) (ST.set 8 (EV.call1' (n := 0) (ds := [lM a]) (cs := (z 8).map D.int) (cs' := k1.map D.int) (fn_changed W) (EA.cons (EV.nm 0) (EA.cons (EV.nm 1) EA.nil)) rfl ⟨rfl, run1⟩) c_law_refused.nd) ?_
  refine SB.cons (E1 := F .no .no (.dat (lM b))) (M1 := [rowC k1]) (ST.no (ET.to (ET.cm (EV.c2 (ok_hermite_holds W) (EV.c1 (ok_law_rows W) (EV.nm 8) ⟨b, sq_l, by omega, rfl⟩) (pp rfl rfl rfl) ⟨b, isM_t mb, Bb, lit b, rfl⟩) EV.bl CS.isnotB) (by rw [hb]; rfl)) SB.nil) ?_
  refine SB.cons (E1 := F .no .no (.dat (lM a.reverse))) (M1 := [rowC k1]) (ST.to (ST.set 8 (EV.listRev (EV.nm 1) W.b.list W.b.reversed (Nat.le_refl _) OkM.refl) c_law_refused.nd) (by rw [← List.map_reverse]; rfl)) ?_
  exact SB.one (ST.ret (ev_like W (n := 0) (d := .bl (decide (a.reverse = a))) rfl (EV.to (EV.c2 (ok_hermite_holds W) (EV.c1 (ok_law_rows W) (EV.nm 8) ⟨a.reverse, sq_l, by omega, rfl⟩) (pp rfl rfl rfl) ⟨a.reverse, isM_t mr, Br, lit _, rfl⟩) (by rw [hrv])) (EV.cm (EV.nm 8) (EV.nm 1) CS.eqN) True.intro (by rfl)))
theorem fn_refused (W : Wd g) : FN g "_law_refused" 8 (fun os M o M' => os.length = 6 ∧ Run g n_law_refused s_law_refused 7 os M o M') := FN.run (ps := ["row", "a", "h", "u", "v", "r"]) W.t_law_refused c_law_refused (fun _ _ _ _ _ _ us hl => match us, hl with | [_, _, _, _, _, _], _ => rfl)
end
end
section
section
variable {g : Pg}
abbrev lb : List Stmt := defBody s_law
abbrev C11 (g : Pg) : Cc := mkC g n_law s_law 36
theorem rest_run (W : Wd g) {o0 : O} {n m : Nat} (hn : 1 ≤ n ∧ n ≤ 8) (hm : 1 ≤ m ∧ m ≤ 8) (ns : List Int) : ∃ M', SB (C11 g) (lb.drop 4) [o0, .adr 1, .dat (.int (n : Int)), .dat (.int (m : Int)), .no, .no, .no, .no, .no, .no, .no, .no, .no, .no, .no, .no, .no, .no, .no] [none, rowC ns] (.rt (.dat (.bl true)) M') := by
  have T := ok_law_take W
  obtain ⟨L, cols, ws, k1, F, hrun⟩ := form_run W (n := n) (m := m) (full := decide (tk ns 4 = 0)) hn.2 hm.2 (dl 1 ns)
  let h : List (List Int) := L ++ List.replicate (n - L.length) (List.replicate m 0)
  obtain ⟨r, er⟩ : ∃ r, r = L.length := ⟨_, rfl⟩
  have htl := F.tl
  have hln := F.len
  have f : HF h m r (fun i => cols.getD i 0) := by rw [er, htl]; exact F.hf
  have hHl : h.length = n := by show (L ++ _).length = n; rw [List.length_append, List.length_replicate]; omega
  have bh : Bn h 12 := Bn.of F.num
  have hHe : h = L ++ List.replicate (n - L.length) (List.replicate m 0) := rfl
  clear_value h
  have th : Tb h n m := ⟨hHl, f.wid⟩
  have hne : h ≠ [] := fun z => by rw [z] at hHl; simp at hHl; omega
  have hi := f.inB hne
  have hr : r ≤ n := by omega
  obtain ⟨v, u, k2, hP, bv, bu, runP⟩ := pair_run W hn k1
  obtain ⟨a, ea⟩ : ∃ a, a = mulM v h := ⟨_, rfl⟩
  have ta : Tb a n m := ea ▸ mul_tb hP.tv th (by omega)
  have ba : Bn a 3000 := ea ▸ (mul_bn hP.tv th (by omega) bv bh).mono (by have : n * (30 * 12) ≤ 8 * 360 := Nat.mul_le_mul hn.2 (Nat.le_refl _); omega)
  have e2 : mulM v h = a := ea.symm
  have e1 : mulM u a = h := by rw [ea, ← mul_assoc hP.tu hP.tv th (by omega) (by omega), hP.uv, mul_unit th (by omega)]
  have la := ta.1
  have lu := hP.tu.1
  have lv := hP.tv.1
  have ma : Mx a := mx_of ta hn hm (ba.mono (by decide))
  have hwa : wd a = m := tb_wd ta (by omega)
  have hwh : wd h = m := tb_wd th (by omega)
  have Ba : Big a := (ba.bd (by decide)).big
  have Bh : Big h := (bh.bd (by decide)).big
  have Bv : Big v := (bv.bd (by decide)).big
  have s1 : Sub h a := by have := sub_mul hP.tu ta (by omega); rwa [e1] at this
  have s2 : Sub a h := by have := sub_mul hP.tv th (by omega); rwa [e2] at this
  obtain ⟨told, hp⟩ := hp_ex ma
  obtain ⟨H, U, V, et, pp⟩ := hp.pp
  have tH : Tb H n m := by have := pp.th; rwa [la, hwa] at this
  have tU : Tb U n n := by have := pp.tu; rwa [la] at this
  have tV : Tb V n n := by have := pp.tv; rwa [la] at this
  have eH : H = h := by
    obtain ⟨r', pc', f'⟩ := pp.fm
    rw [hwa] at f'
    exact f'.uniq f (by rw [tH.1, hHl]) (pp.s1.trans s2) (s1.trans pp.s2)
  have hs : Shape a told H U V := ⟨et, pp.th, pp.tu, pp.tv⟩
  have eq := pp.eq
  rw [eH] at eq
  have litT : Lit a told := fun H' U' V' hs' => by
    obtain ⟨rfl, rfl, rfl⟩ := shape_inj hs hs'
    exact ⟨pp.bh, pp.bu, pp.bv⟩
  have shT : showsB a h told = true := by
    rw [shows_yes hs, decide_eq_true eH, decide_eq_true eq.1, decide_eq_true eq.2.1, decide_eq_true eq.2.2]
    rfl
  have hoT : holdsB a told = true := by rw [holds_shows (by omega) ta f hHl s1 s2]; exact shT
  have fitT : Fit 3 told := by
    rw [et]
    refine ⟨by show 3 < 100000; decide, fun x hx => ?_⟩
    simp only [List.mem_cons, List.not_mem_nil, or_false] at hx
    rcases hx with rfl | rfl | rfl
    · exact fit_t (by rw [tH.1]; omega) fun q hq => by rw [tH.2 q hq]; omega
    · exact fit_t (by rw [tU.1]; omega) fun q hq => by rw [tU.2 q hq]; omega
    · exact fit_t (by rw [tV.1]; omega) fun q hq => by rw [tV.2 q hq]; omega
  have fitA : Fit 2 (lM a) := fit_l (by omega) fun x hx => by rw [ta.2 x hx]; omega
  have litP : ∀ A, Lit A (pap h u v) := lit_tab (B := 30) (by decide) (bh.mono (by decide)) bu bv
  let G : O → O → O → O → O → O → O → O → O → O → O → O → O → List O := fun l c w r h v u a hd td de fa bk => [o0, .adr 1, .dat (.int (n : Int)), .dat (.int (m : Int)), l, c, w, r, h, v, u, a, hd, td, de, fa, bk, .no, .no]
  let G5 : O → List O := fun de => G (.dat (lM L)) (.dat (lN cols)) (.dat (lV ws)) (.dat (.int (r : Int))) (.dat (lM h)) (.dat (lM v)) (.dat (lM u)) (.dat (lM a)) (.dat (lM a)) (.dat told) de .no .no
  let G6 : O → O → O → List O := fun de fa bk => G (.dat (lM L)) (.dat (lN cols)) (.dat (lV ws)) (.dat (.int (r : Int))) (.dat (lM h)) (.dat (lM v)) (.dat (lM u)) (.dat (lM a)) (.dat (lM a)) (.dat told) de fa bk
  let Mm : List Int → Mem := fun k => [none, rowC k]
  have rwa' : ∀ {E : List O} {M : Mem} {p1 p2 p3 : Pos}, E[11]? = some (.dat (lM a)) → EV (C11 g) (.Call (.Name "_law_rows" p1) [.Name "a" p2] [] p3) E M (.dat (tM a)) M := fun {E M p1 p2 p3} he => EV.c1 (ok_law_rows W) (EV.nm 11 rfl he) ⟨a, sq_l, by omega, rfl⟩
  -- the end
  have last : ∀ (k : List Int) (de fa bk : O), ∃ M', SB (C11 g) (lb.drop 14) (G6 de fa bk) (Mm k) (.rt (.dat (.bl true)) M') := fun k de fa bk => by
    obtain ⟨k3, run3⟩ := refused_run W ta f hHl hn hm hP e1 e2 ba bh bu bv k
    have he : echB h = true := by
      have h2 : (echB h && (List.range h.length).all (inR h)) = true := hi
      rw [Bool.and_eq_true] at h2
      exact h2.1
    obtain ⟨k4, run4⟩ := claimed_run W ta th hn hm hP e1 e2 he ba bh bu bv k3
    exact ⟨Mm k4, SB.one (ST.ret (EV.to (EV.and (k1 := true) (k2 := true) (EV.call1' (n := 1) (ds := [lM a, lM h, lM u, lM v, .int (r : Int)]) (d := .bl true) (cs := k.map D.int) (cs' := k3.map D.int) (M' := Mm k3) (fn_refused W) (EA.cons (EV.nm 1) (EA.cons (EV.nm 11) (EA.cons (EV.nm 8) (EA.cons (EV.nm 10) (EA.cons (EV.nm 9) (EA.cons (EV.nm 7) EA.nil)))))) rfl ⟨rfl, run3⟩) (fun _ => EV.and1 (EV.call1' (n := 1) (ds := [lM a, lM h, lM u, lM v]) (d := .bl true) (cs := k3.map D.int) (cs' := k4.map D.int) (M' := Mm k4) (fn_claimed W) (EA.cons (EV.nm 1) (EA.cons (EV.nm 11) (EA.cons (EV.nm 8) (EA.cons (EV.nm 10) (EA.cons (EV.nm 9) EA.nil))))) rfl ⟨rfl, run4⟩)) (fun z => nomatch z)) rfl))⟩
  -- steps that leave h
  have mid : ∃ M', SB (C11 g) (lb.drop 13) (G5 .no) (Mm k2) (.rt (.dat (.bl true)) M') := by
    by_cases hrn : r < n
    · obtain ⟨o1, k3, ho1, hs1, hst1, run1⟩ := still_run W hn.2 hrn k2
      obtain ⟨o2, k4, ho2, hs2, hst2, run2⟩ := still_run W hn.2 hrn k3
      have sm : ∀ {o : Op}, o.sm (2 ^ 70) → o.sm (2 ^ 100) := fun {o} hh => by
        cases o with
        | add i j x => exact Nat.le_trans hh (by decide)
        | _ => exact True.intro
      have low : ∀ i, r ≤ i → ∀ j, gE h i j = 0 := f.low
      have P1 : Pr (v.map (undF o1)) (ledF o1 u) n := hP.sym.step (by omega) ho1
      have P2 : Pr ((v.map (undF o1)).map (undF o2)) (ledF o2 (ledF o1 u)) n := P1.step (by omega) ho2
      have bf1 := led_bn hP.tu ho1 hs1 bu
      have bk1 := und_bn hP.tv ho1 hs1 bv
      have bf2 := led_bn P1.tv ho2 hs2 bf1
      have bk2 := und_bn P1.tu ho2 hs2 bk1
      have q1 : mulM (ledF o1 u) a = h := by rw [led_mul hP.tu ta (by omega) ho1, e1, still_led th ho1 hst1 low]
      have q2 : mulM (ledF o2 (ledF o1 u)) a = h := by rw [led_mul P1.tv ta (by omega) ho2, q1, still_led th ho2 hst2 low]
      have q3 : mulM (v.map (undF o1)) h = a := by
        have := und_mul hP.tv th (by omega) ho1
        rw [still_led th ho1 hst1 low, e2] at this
        exact this
      have q4 : mulM ((v.map (undF o1)).map (undF o2)) h = a := by
        have := und_mul P1.tu th (by omega) ho2
        rw [still_led th ho2 hst2 low, q3] at this
        exact this
      have hB : (30 * (2 ^ 70 + 1)) * (2 ^ 70 + 1) + 5 ≤ 2 ^ 200 := by decide
      have hB1 : 30 * (2 ^ 70 + 1) ≤ 2 ^ 200 := by decide
      have hB2 : (30 * (2 ^ 70 + 1)) * (2 ^ 70 + 1) ≤ 2 ^ 200 := by decide
      have hB3 : 12 ≤ (30 * (2 ^ 70 + 1)) * (2 ^ 70 + 1) + 5 := by decide
      obtain ⟨fa, efa⟩ : ∃ x, x = ledF o2 (ledF o1 u) := ⟨_, rfl⟩
      obtain ⟨bk, ebk⟩ : ∃ x, x = (v.map (undF o1)).map (undF o2) := ⟨_, rfl⟩
      rw [← efa] at P2 bf2 q2
      rw [← ebk] at P2 bk2 q4
      obtain ⟨i, j, δ, k5, hi', hj, hd, hd5, run5⟩ := changed_run W P2.tv hn hn k4
      obtain ⟨fc, efc⟩ : ∃ x, x = chg fa i j δ := ⟨_, rfl⟩
      have tfc : Tb fc n n := efc ▸ chg_tb P2.tv hi'
      have bfc := chg_bn P2.tv hi' hj bf2 hd5
      have nfc : mulM fc bk ≠ unitM n := efc ▸ chg_not P2.sym (by omega) hi' hj hd
      rw [← efc] at run5 bfc
      have lfa := P2.tv.1
      have lbk := P2.tu.1
      have lfc := tfc.1
      have lit1 : ∀ A, Lit A (pap h fa bk) := lit_tab hB (bh.mono hB3) (bf2.mono (Nat.le_add_right _ 5)) (bk2.mono (Nat.le_add_right _ 5))
      have lit2 : ∀ A, Lit A (pap h fc bk) := lit_tab hB (bh.mono hB3) bfc (bk2.mono (Nat.le_add_right _ 5))
      have h1 : holdsB a (pap h fa bk) = true := pap_yes ta (by omega) th P2.tv P2.tu hi q2 q4 P2.vu
      have h2 : holdsB a (pap h fc bk) = false := pap_no ta (by omega) th tfc P2.tu (.inr nfc)
      obtain ⟨M', hM⟩ := last k5 (.dat o2.d) (.dat (lM fa)) (.dat (lM bk))
      refine ⟨M', SB.cons (E1 := G6 (.dat o2.d) (.dat (lM fa)) (.dat (lM bk))) (M1 := Mm k5) (ST.yes (ET.to (ET.cm (EV.nm 7) (EV.nm 2) CS.ltI) (decide_eq_true (by omega))) ?_) hM⟩
      refine SB.cons (E1 := G6 (.dat o1.d) .no .no) (M1 := Mm k3) (ST.set 14 (EV.call1' (n := 1) (ds := [.int (n : Int), .int (r : Int)]) (cs := k2.map D.int) (cs' := k3.map D.int) (M' := Mm k3) (fn_still W) (EA.cons (EV.nm 1) (EA.cons (EV.nm 2) (EA.cons (EV.nm 7) EA.nil))) rfl ⟨rfl, run1⟩) c_law.nd) ?_
      refine SB.cons (E1 := G6 (.dat o1.d) (.dat (lM (ledF o1 u))) .no) (M1 := Mm k3) (ST.set 15 (EV.c2 (ok_law_lead W) (EV.nm 10) (EV.nm 14) (lead_arg hP.tu hn.2 hn.2 ho1 (sm hs1) bu (by decide))) c_law.nd) ?_
      refine SB.cons (E1 := G6 (.dat o1.d) (.dat (lM (ledF o1 u))) (.dat (lM (v.map (undF o1))))) (M1 := Mm k3) (ST.set 16 (EV.c2 (ok_law_undo W) (EV.nm 9) (EV.nm 14) (undo_arg hP.tv hn.2 ho1 (sm hs1) bv (by decide))) c_law.nd) ?_
      refine SB.cons (E1 := G6 (.dat o2.d) (.dat (lM (ledF o1 u))) (.dat (lM (v.map (undF o1))))) (M1 := Mm k4) (ST.set 14 (EV.call1' (n := 1) (ds := [.int (n : Int), .int (r : Int)]) (cs := k3.map D.int) (cs' := k4.map D.int) (M' := Mm k4) (fn_still W) (EA.cons (EV.nm 1) (EA.cons (EV.nm 2) (EA.cons (EV.nm 7) EA.nil))) rfl ⟨rfl, run2⟩) c_law.nd) ?_
      refine SB.cons (E1 := G6 (.dat o2.d) (.dat (lM fa)) (.dat (lM (v.map (undF o1))))) (M1 := Mm k4) (ST.set 15 (EV.to (EV.c2 (ok_law_lead W) (EV.nm 15) (EV.nm 14) (lead_arg P1.tv hn.2 hn.2 ho2 (sm hs2) bf1 hB1)) (by rw [efa])) c_law.nd) ?_
      refine SB.cons (E1 := G6 (.dat o2.d) (.dat (lM fa)) (.dat (lM bk))) (M1 := Mm k4) (ST.set 16 (EV.to (EV.c2 (ok_law_undo W) (EV.nm 16) (EV.nm 14) (undo_arg P1.tu hn.2 ho2 (sm hs2) bk1 hB1)) (by rw [ebk])) c_law.nd) ?_
      refine SB.cons (E1 := G6 (.dat o2.d) (.dat (lM fa)) (.dat (lM bk))) (M1 := Mm k4) (ST.no (ET.to (ET.cm (EV.c2 (ok_hermite_holds W) (rwa' rfl) (EV.c3 (ok_law_paper W) (EV.nm 8) (EV.nm 15) (EV.nm 16) ⟨h, fa, bk, sq_l, sq_l, sq_l, by omega, by omega, by omega, rfl⟩) ⟨a, isM_t ma, Ba, lit1 a, rfl⟩) EV.bl CS.isnotB) (by rw [h1]; rfl)) SB.nil) ?_
      exact SB.one (ST.no (ET.to (ET.cm (EV.c2 (ok_hermite_holds W) (rwa' rfl) (EV.c3 (ok_law_paper W) (EV.nm 8) (EV.call1' (n := 1) (ds := [lM fa]) (cs := k4.map D.int) (cs' := k5.map D.int) (M' := Mm k5) (fn_changed W) (EA.cons (EV.nm 1) (EA.cons (EV.nm 15) EA.nil)) rfl ⟨rfl, run5⟩) (EV.nm 16) ⟨h, fc, bk, sq_l, sq_l, sq_l, by omega, by omega, by omega, rfl⟩) ⟨a, isM_t ma, Ba, lit2 a, rfl⟩) EV.bl CS.isnotB) (by rw [h2]; rfl)) SB.nil)
    · obtain ⟨M', hM⟩ := last k2 .no .no .no
      exact ⟨M', SB.cons (E1 := G6 .no .no .no) (M1 := Mm k2) (ST.no (ET.to (ET.cm (EV.nm 7) (EV.nm 2) CS.ltI) (decide_eq_false (by omega))) SB.nil) hM⟩
  obtain ⟨M', hM⟩ := mid
  refine ⟨M', ?_⟩
  refine SB.cons (E1 := G (.dat (lM L)) (.dat (lN cols)) (.dat (lV ws)) .no .no .no .no .no .no .no .no .no .no) (M1 := Mm k1) (ST.asg (EV.call1' (n := 1) (ds := [.int (n : Int), .int (m : Int), .bl (decide (tk ns 4 = 0))]) (cs := (dl 1 ns).map D.int) (cs' := k1.map D.int) (M' := Mm k1) (fn_form W) (EA.cons (EV.nm 1) (EA.cons (EV.nm 2) (EA.cons (EV.nm 3) (EA.cons (EV.cm (ev_tk (n := 1) (ns := ns) (M' := Mm (dl 1 ns)) T (EV.nm 1) EV.int rfl (by decide)) EV.int CS.eqI) EA.nil)))) rfl ⟨rfl, hrun⟩) (EG.tup (ds := [lM L, lN cols, lV ws]) (EGs.cons (EG.nm 4 c_law.nd) (EGs.cons (EG.nm 5 c_law.nd) (EGs.cons (EG.nm 6 c_law.nd) EGs.nil))))) ?_
  refine SB.cons (E1 := G (.dat (lM L)) (.dat (lN cols)) (.dat (lV ws)) (.dat (.int (r : Int))) .no .no .no .no .no .no .no .no .no) (M1 := Mm k1) (ST.set 7 (EV.to (EV.len (EV.nm 4) len_lM W.b.len) (by rw [er])) c_law.nd) ?_
  refine SB.cons (E1 := G (.dat (lM L)) (.dat (lN cols)) (.dat (lV ws)) (.dat (.int (r : Int))) (.dat (lM h)) .no .no .no .no .no .no .no .no) (M1 := Mm k1) (ST.to (ST.set 8 (EV.bin (EV.nm 4) (LC.ev (LC.lR 17 (j := ((n - L.length : Nat) : Int)) (g := fun _ => lV (List.replicate m 0)) (own := [("k", 17)]) (by rfl) c_law.nd rfl (EV.to (EV.sub (EV.nm 2) (EV.nm 7)) (by congr 2; omega)) W.b.range (Nat.le_refl _) OkM.refl (by omega) (fun i hi M => EV.to (EV.bin (EV.lst (ds := [.int 0]) (EA.cons EV.int EA.nil) (by show 1 ≤ 100000; decide)) (EV.nm 3) (BS.mulL (by omega) (by omega) (by show 1 ≤ 100; decide))) (by rw [repI, Int.toNat_natCast])))) (BS.addL (by rw [List.length_map, List.length_map, List.length_range]; omega))) c_law.nd) ?_) ?_
  · have e3 : (List.range (n - L.length)).map (fun _ => lV (List.replicate m 0)) = (List.replicate (n - L.length) (List.replicate m 0)).map lV := by
      rw [List.map_const', List.length_range, List.map_replicate]
    rw [Int.toNat_natCast, e3]
    show Out.nx (G _ _ _ _ (.dat (.lst (L.map lV ++ (List.replicate (n - L.length) (List.replicate m 0)).map lV))) _ _ _ _ _ _ _ _) _ = _
    rw [← List.map_append, ← hHe]
  refine SB.cons (E1 := G (.dat (lM L)) (.dat (lN cols)) (.dat (lV ws)) (.dat (.int (r : Int))) (.dat (lM h)) (.dat (lM v)) (.dat (lM u)) .no .no .no .no .no .no) (M1 := Mm k2) (ST.asg (EV.call1' (n := 1) (ds := [.int (n : Int)]) (cs := k1.map D.int) (cs' := k2.map D.int) (M' := Mm k2) (fn_pair W) (EA.cons (EV.nm 1) (EA.cons (EV.nm 2) EA.nil)) rfl ⟨rfl, runP⟩) (EG.tup (ds := [lM v, lM u]) (EGs.cons (EG.nm 9 c_law.nd) (EGs.cons (EG.nm 10 c_law.nd) EGs.nil)))) ?_
  refine SB.cons (E1 := G (.dat (lM L)) (.dat (lN cols)) (.dat (lV ws)) (.dat (.int (r : Int))) (.dat (lM h)) (.dat (lM v)) (.dat (lM u)) (.dat (lM a)) .no .no .no .no .no) (M1 := Mm k2) (ST.set 11 (EV.to (EV.c2 (ok_law_times W) (EV.nm 9) (EV.nm 8) ⟨v, h, sq_l, sq_l, hne, fun q hq => by rw [hP.tv.2 q hq, hHl], fun q hq => by rw [th.2 q hq, hwh], by omega, by omega, by omega, Bv.mul Bh, rfl⟩) (by rw [e2])) c_law.nd) ?_
  refine SB.cons (E1 := G (.dat (lM L)) (.dat (lN cols)) (.dat (lV ws)) (.dat (.int (r : Int))) (.dat (lM h)) (.dat (lM v)) (.dat (lM u)) (.dat (lM a)) (.dat (lM a)) .no .no .no .no) (M1 := Mm k2) (ST.to (LC.set 12 (LC.lM 18 (xs := a) (f := lV) (g := lV) (own := [("line", 18)]) (by rfl) c_law.nd rfl (EV.nm 11) rfl (Nat.le_refl _) OkM.refl (by omega) (fun q hq M => EV.list (EV.nm 18) rfl W.b.list)) rfl rfl (fun env he => sw_true (by rw [he]; rfl) (by rw [he]; rfl) (by rfl) (by rfl))) rfl) ?_
  refine SB.cons (E1 := G5 .no) (M1 := Mm k2) (ST.set 13 (EV.c1 (ok_hermite_paper W) (EV.nm 12) ⟨a, isM_l ma, hp⟩) c_law.nd) ?_
  refine SB.cons (E1 := G5 .no) (M1 := Mm k2) (ST.no (ET.to (EW.et (EW.or (k1 := false) (k2 := false) (ET.to (ET.not (ET.val (EV.c3 (ok_law_shows W) (EV.nm 11) (EV.nm 8) (EV.nm 13) ⟨a, h, n, m, rfl, rfl, ta, th, hn, hm, Ba, Bh, litT, rfl⟩))) (by rw [shT]; rfl)) (fun _ => EW.or (k1 := false) (k2 := false) (ET.to (ET.not (ET.val (ev_like W (n := 2) rfl (EV.nm 12) (EV.nm 11) fitA (by rfl)))) rfl) (fun _ => EW.or1 (ET.to (ET.not (ET.val (ev_like W (n := 3) rfl (EV.c1 (ok_hermite_paper W) (rwa' rfl) ⟨a, isM_t ma, hp⟩) (EV.nm 13) fitT (by rfl)))) rfl)) (fun z => nomatch z)) (fun z => nomatch z))) rfl) SB.nil) ?_
  refine SB.cons (E1 := G5 .no) (M1 := Mm k2) (ST.no (ET.to (EW.et (EW.or (k1 := false) (k2 := false) (ET.to (ET.cm (EV.c2 (ok_hermite_holds W) (rwa' rfl) (EV.nm 13) ⟨a, isM_t ma, Ba, litT, rfl⟩) EV.bl CS.isnotB) (by rw [hoT]; rfl)) (fun _ => EW.or1 (ET.to (ET.cm (EV.c2 (ok_hermite_holds W) (rwa' rfl) (EV.c3 (ok_law_paper W) (EV.nm 8) (EV.nm 10) (EV.nm 9) ⟨h, u, v, sq_l, sq_l, sq_l, by omega, by omega, by omega, rfl⟩) ⟨a, isM_t ma, Ba, litP a, rfl⟩) EV.bl CS.isnotB) (by rw [pap_yes ta (by omega) th hP.tu hP.tv hi e1 e2 hP.uv]; rfl))) (fun z => nomatch z))) rfl) SB.nil) ?_
  exact hM
theorem law_run (W : Wd g) {o0 : O} {ns : List Int} (hs : Scr g.K o0 (ns.map V.int)) (hn : o0 ≠ .no) (hl : ns.length ≤ 63) : ∃ M', SB (C11 g) lb (pad n_law [o0]) [] (.rt (.dat (.bl true)) M') := by
  have T := ok_law_take W
  have hren : ∀ ρ : Nat → Nat, o0.ren ρ = o0 := fun ρ => by
    obtain ⟨a, u, rfl, _⟩ := hs
    rfl
  obtain ⟨res, hres⟩ := draws_run W hs hn hl
  have p0 := tk_pos (ns := res) (b := 4) (by decide)
  have p1 := tk_pos (ns := dl 1 res) (b := 4) (by decide)
  have p3 := tk_pos (ns := dl 3 res) (b := 8) (by decide)
  have p4 := tk_pos (ns := dl 4 res) (b := 4) (by decide)
  obtain ⟨n, en⟩ : ∃ x : Nat, 1 + tk res 4 = (x : Int) := ⟨(1 + tk res 4).toNat, by omega⟩
  obtain ⟨m, em⟩ : ∃ x : Nat, 1 + tk (dl 1 res) 4 = (x : Int) := ⟨(1 + tk (dl 1 res) 4).toNat, by omega⟩
  let E : O → O → List O := fun a b => [o0, .adr 1, a, b, .no, .no, .no, .no, .no, .no, .no, .no, .no, .no, .no, .no, .no, .no, .no]
  let Mm : List Int → Mem := fun k => [none, rowC k]
  have start : ∀ {q : Out}, SB (C11 g) (lb.drop 3) (E (.dat (.int (n : Int))) (.dat (.int (m : Int)))) (Mm (dl 2 res)) q → SB (C11 g) lb (pad n_law [o0]) [] q := fun {q} hh =>
    SB.cons (E1 := E .no .no) (M1 := Mm res) (ST.set 1 (EV.callG (ι := []) (os0 := [o0, .dat (.int 300)]) (M0 := []) (M0' := [none, rowC res]) (o0 := .adr 1) (ok_law_draws W) (EA.cons (EV.nm 0 rfl rfl hn) (EA.cons EV.int EA.nil)) ⟨o0, res, hres, rfl, rfl, rfl, rfl⟩ (by show [_, _] = [o0.ren _, _]; rw [hren]; rfl) mixDraws) c_law.nd) (SB.cons (E1 := E (.dat (.int (n : Int))) .no) (M1 := Mm (dl 1 res)) (ST.set 2 (EV.to (EV.add EV.int (ev_tk (n := 1) (ns := res) (M' := Mm (dl 1 res)) T (EV.nm 1) EV.int rfl (by decide))) (by rw [en])) c_law.nd) (SB.cons (E1 := E (.dat (.int (n : Int))) (.dat (.int (m : Int)))) (M1 := Mm (dl 2 res)) (ST.set 3 (EV.to (EV.add EV.int (ev_tk (n := 1) (ns := dl 1 res) (M' := Mm (dl 2 res)) T (EV.nm 1) EV.int rfl (by decide))) (by rw [em])) c_law.nd) hh))
  by_cases h6 : tk (dl 2 res) 6 = 0
  · obtain ⟨n2, en2⟩ : ∃ x : Nat, 1 + tk (dl 3 res) 8 = (x : Int) := ⟨(1 + tk (dl 3 res) 8).toNat, by omega⟩
    obtain ⟨m2, em2⟩ : ∃ x : Nat, 5 + tk (dl 4 res) 4 = (x : Int) := ⟨(5 + tk (dl 4 res) 4).toNat, by omega⟩
    obtain ⟨M', hM⟩ := rest_run W (o0 := o0) (n := n2) (m := m2) (by omega) (by omega) (dl 5 res)
    exact ⟨M', start (SB.cons (E1 := E (.dat (.int (n2 : Int))) (.dat (.int (m2 : Int)))) (M1 := Mm (dl 5 res)) (ST.yes (ET.to (ET.cm (ev_tk (n := 1) (ns := dl 2 res) (M' := Mm (dl 3 res)) T (EV.nm 1) EV.int rfl (by decide)) EV.int CS.eqI) (decide_eq_true h6)) (SB.cons (E1 := E (.dat (.int (n2 : Int))) (.dat (.int (m : Int)))) (M1 := Mm (dl 4 res)) (ST.set 2 (EV.to (EV.add EV.int (ev_tk (n := 1) (ns := dl 3 res) (M' := Mm (dl 4 res)) T (EV.nm 1) EV.int rfl (by decide))) (by rw [en2])) c_law.nd) (SB.one (ST.set 3 (EV.to (EV.add EV.int (ev_tk (n := 1) (ns := dl 4 res) (M' := Mm (dl 5 res)) T (EV.nm 1) EV.int rfl (by decide))) (by rw [em2])) c_law.nd)))) hM)⟩
  · obtain ⟨M', hM⟩ := rest_run W (o0 := o0) (n := n) (m := m) (by omega) (by omega) (dl 3 res)
    exact ⟨M', start (SB.cons (E1 := E (.dat (.int (n : Int))) (.dat (.int (m : Int)))) (M1 := Mm (dl 3 res)) (ST.no (ET.to (ET.cm (ev_tk (n := 1) (ns := dl 2 res) (M' := Mm (dl 3 res)) T (EV.nm 1) EV.int rfl (by decide)) EV.int CS.eqI) (decide_eq_false h6)) SB.nil) hM)⟩
def spLaw (K : PySem.W.Frag) : Sp := fun vs H Q _ => ∃ (a : Addr) (ns : List Int), vs = [.ref a] ∧ SqL K H a (ns.map V.int) ∧ ns.length ≤ 63 ∧ LamX.Tabs TabCtx.T H ∧ ∀ H', Q (.bl true) H'
open Classical in
theorem scr_of {K : PySem.W.Frag} {H : Hp} {a : Addr} {xs : List V} (h : SqL K H a xs) : ∃ (I : Hp) (u : Option HO), Ex I H ∧ (∀ o, u = some o → I a = some o) ∧ Scr K (.scr a u) xs ∧ ∀ b v, I b = some v → NT v := by
  have one : ∀ o, H a = some o → NT o → (∀ H' : Hp, H' a = some o → SqL K H' a xs) → ∃ (I : Hp) (u : Option HO), Ex I H ∧ (∀ o, u = some o → I a = some o) ∧ Scr K (.scr a u) xs ∧ ∀ b v, I b = some v → NT v := fun o ho hn hq => by
    have at_ : ∀ b p, (if b = a then some o else none) = some p → b = a ∧ o = p := fun b p hb => by
      by_cases e : b = a
      · exact ⟨e, Option.some.inj ((if_pos e).symm.trans hb)⟩
      · cases (if_neg e).symm.trans hb
    exact ⟨fun b => if b = a then some o else none, some o, fun b p hb => by
      obtain ⟨e1, e2⟩ := at_ b p hb
      rw [e1, ho, e2], fun p hp => (if_pos rfl).trans hp, ⟨a, some o, rfl, fun H' hH => hq H' (hH o rfl)⟩, fun b v hb => (at_ b v hb).2 ▸ hn⟩
  rcases h with (h | ⟨ob, h⟩) | h
  · exact one _ h .lst fun H' h' => .inl (.inl h')
  · exact one _ h (fun _ z => by cases z) fun H' h' => .inl (.inr ⟨ob, h'⟩)
  · exact ⟨fun _ => none, none, (fun b p hb => by cases hb), (fun p hp => by cases hp), ⟨a, none, rfl, fun H' _ => .inr h⟩, fun b v hb => by cases hb⟩
theorem ok_law {f : Addr} {fd : FuncData} (W : Wd g) (F : Fun g.K "law" "law" s_law f fd) : FnOk g.P g.w g.K g.mg g.base CX0 37 f fd ["script"] (spLaw g.K) := by
  obtain ⟨oc, od, kV, doc, pm, an, cdv, ct, osl, rfl, lk, hcd⟩ := F.ex
  refine fn_of lk hcd c_law (fun vs H Q E h => ?_) fun A outer s H vs Q E hr h => ?_
  · obtain ⟨a, ns, rfl, _⟩ := h
    rfl
  · obtain ⟨a, ns, rfl, hS, hlen, tabs, q⟩ := h
    obtain ⟨I, u, ex, hu, hs, nt⟩ := scr_of hS
    obtain ⟨M', hb⟩ := law_run (g := g) W hs (by intro z; cases z) hlen
    have key : ∃ t, PSs (cxOf CX0 g.P g.w g.K g.mg g.base n_law "law" (defScope s_law) f cdv A outer s H E).nox (defBody s_law) t ∧ t { nx := fun _ H' => Q .non H', rt := Q } (L2.start n_law [.ref a]) H := by
      refine ⟨UB (C11 g) lb, ub ⟨rfl, rfl, rfl, rfl, rfl, rfl, rfl, rfl, hr, PassesOwn.never, takes0, fun _ _ => rfl, fun c q z => (by cases z), ⟨_, _, rfl, c_law.gen, c_law.co, rfl, rfl⟩⟩ _, ?_⟩
      refine hb I H [] (L2.start n_law [.ref a]) _ ⟨ex, ⟨rfl, List.nodup_nil, fun k a os h1 _ => by simp at h1, fun k a h1 => by simp at h1, ⟨tabs, nt⟩⟩, rfl, fun i p ov h1 h2 => ?_⟩ fun v I' H' adr' s' g' v' => ?_
      · match i, h1, h2 with
        | 0, h1, h2 =>
          cases h1
          cases h2
          exact ⟨rfl, hu⟩
        | i + 1, h1, h2 =>
          have e : p = .no := by
            have : (List.replicate 18 O.no)[i]? = some p := h1
            exact List.eq_of_mem_replicate (List.mem_of_getElem? this)
          subst e
          have e2 : ov = none := by
            have : (List.replicate 18 (none : Option V))[i]? = some ov := h2
            exact List.eq_of_mem_replicate (List.mem_of_getElem? this)
          subst e2
          rfl
      · cases (show Rep I' (.bl true) v from v')
        exact q H'
    obtain ⟨t, h1, h2⟩ := key
    exact ⟨t, h1.nox, h2⟩
end
end
end Ab
end
set_option maxHeartbeats 0
namespace Ab
open PySem PySem.Spec PyProof.Rows L2
theorem seer_of {K : PySem.W.Frag} {h base : Heap} {mg : Str → Option Value} {c P : Addr} (N : h.NoSeer) (KX : K.In h) (KB : K.In base) (sy : seenY K = true) (G : base.Ns mainGlobals mg) (T : LamX.TabB base mg c P) : base.NoSeer := by
  have same : ∀ a, (K.lookup a).isSome = true → ∀ m, h.Ns a m → base.Ns a m := fun a ha m ⟨u, es, ep, e, r⟩ => by
    obtain ⟨u', hu⟩ := Option.isSome_iff_exists.mp ha
    have e1 := KX a u' hu
    rw [e] at e1
    cases e1
    exact ⟨u, es, ep, KB a u hu, r⟩
  obtain ⟨s1, s4⟩ := Bool.and_eq_true_iff.mp sy
  obtain ⟨s2, s3⟩ := Bool.and_eq_true_iff.mp s4
  exact ⟨let ⟨m, a, b⟩ := N.statics; ⟨m, same _ s1 m a, b⟩, let ⟨m, a, b⟩ := N.mods; ⟨m, same _ s2 m a, b⟩, let ⟨m, a, b⟩ := N.imp; ⟨m, same _ s3 m a, b⟩, let ⟨bm, ob, b1, _, _, _, b3, b4, b5, _⟩ := T.bm; ⟨mg, bm, ob, G, b1, b3, b4, b5⟩⟩
theorem fun_of {K : PySem.W.Frag} {x q : Str} {st : Stmt} {f : Addr} {fd : FuncData} (F : FunD K x q (defArgs st) (defBody st) (defScope st) [] [] f fd) : Fun K x q st f fd := by
  obtain ⟨oc, od, dV, kV, doc, pm, an, cdv, ct, osl, h1, h2, h3, h4, h5⟩ := F.ex
  rcases h4 with ⟨_, e⟩ | ⟨e, _⟩
  · subst e
    exact ⟨⟨oc, od, kV, doc, pm, an, cdv, ct, osl, h1, h2, h3⟩, F.kp⟩
  · exact absurd rfl e
@[reducible] def wkOf (K : PySem.W.Frag) : WkCtx := ⟨He.ga K "Work", (He.cT K hcl).1, (He.cT K hcl).2⟩
theorem hwd {P : Program} {w : World} {K : PySem.W.Frag} {h base : Heap} {mg : Str → Option Value} (X : K.In h) (G : h.Ns mainGlobals mg) (c : He.SaysD hfa hfn K) (c2 : He.SaysT hfa hfn hts w K) (c3 : hex K = true) (T : LamX.TabB base mg (He.cT K hcl).1 (He.cT K hcl).2) (N : base.NoSeer) (ht : P.given.tree = none) : @Wd (wkOf K) ⟨P, w, K, mg, base⟩ := by
  letI := wkOf K
  exact {
  b := ⟨He.free_ok X G (c.fact 52 (f := .free "len") rfl), He.free_ok X G (c.fact 53 (f := .free "sum") rfl), He.free_ok X G (c.fact 54 (f := .free "all") rfl), He.free_ok X G (c.fact 55 (f := .free "any") rfl), He.free_ok X G (c.fact 56 (f := .free "abs") rfl), He.free_ok X G (c.fact 57 (f := .free "min") rfl), He.free_ok X G (c.fact 58 (f := .free "max") rfl), He.free_ok X G (c.fact 59 (f := .free "int") rfl), He.free_ok X G (c.fact 60 (f := .free "bool") rfl), He.free_ok X G (c.fact 61 (f := .free "str") rfl), He.free_ok X G (c.fact 62 (f := .free "tuple") rfl), He.free_ok X G (c.fact 63 (f := .free "list") rfl), He.free_ok X G (c.fact 64 (f := .free "range") rfl), He.free_ok X G (c.fact 65 (f := .free "zip") rfl), He.free_ok X G (c.fact 66 (f := .free "enumerate") rfl), He.free_ok X G (c.fact 67 (f := .free "isinstance") rfl), He.free_ok X G (c.fact 68 (f := .free "reversed") rfl), He.free_ok X G (c.fact 69 (f := .free "sorted") rfl)⟩
  t_is_number := ⟨let ⟨fd, F⟩ := c.def_ 0 (d := d_is_number) rfl; ⟨_, fd, fun_of F, He.glo_ok X G (c.fact 0 (f := .glo "is_number") rfl)⟩⟩
  t_is_from_to := ⟨let ⟨fd, F⟩ := c.def_ 1 (d := d_is_from_to) rfl; ⟨_, fd, fun_of F, He.glo_ok X G (c.fact 1 (f := .glo "is_from_to") rfl)⟩⟩
  t_is_row := ⟨let ⟨fd, F⟩ := c.def_ 2 (d := d_is_row) rfl; ⟨_, fd, fun_of F, He.glo_ok X G (c.fact 2 (f := .glo "is_row") rfl)⟩⟩
  t_is_vector := ⟨let ⟨fd, F⟩ := c.def_ 3 (d := d_is_vector) rfl; ⟨_, fd, fun_of F, He.glo_ok X G (c.fact 3 (f := .glo "is_vector") rfl)⟩⟩
  t_is_matrix := ⟨let ⟨fd, F⟩ := c.def_ 4 (d := d_is_matrix) rfl; ⟨_, fd, fun_of F, He.glo_ok X G (c.fact 4 (f := .glo "is_matrix") rfl)⟩⟩
  t_checked_matrix := ⟨let ⟨fd, F⟩ := c.def_ 5 (d := d_checked_matrix) rfl; ⟨_, fd, fun_of F, He.glo_ok X G (c.fact 5 (f := .glo "checked_matrix") rfl)⟩⟩
  t_is_wide := ⟨let ⟨fd, F⟩ := c.def_ 6 (d := d_is_wide) rfl; ⟨_, fd, fun_of F, He.glo_ok X G (c.fact 6 (f := .glo "is_wide") rfl)⟩⟩
  t_is_line := ⟨let ⟨fd, F⟩ := c.def_ 7 (d := d_is_line) rfl; ⟨_, fd, fun_of F, He.glo_ok X G (c.fact 7 (f := .glo "is_line") rfl)⟩⟩
  t_is_table := ⟨let ⟨fd, F⟩ := c.def_ 8 (d := d_is_table) rfl; ⟨_, fd, fun_of F, He.glo_ok X G (c.fact 8 (f := .glo "is_table") rfl)⟩⟩
  t_times := ⟨let ⟨fd, F⟩ := c.def_ 9 (d := d_times) rfl; ⟨_, fd, fun_of F, He.glo_ok X G (c.fact 9 (f := .glo "times") rfl)⟩⟩
  t_flipped := ⟨let ⟨fd, F⟩ := c.def_ 10 (d := d_flipped) rfl; ⟨_, fd, fun_of F, He.glo_ok X G (c.fact 10 (f := .glo "flipped") rfl)⟩⟩
  t_multiplied := ⟨let ⟨fd, F⟩ := c.def_ 11 (d := d_multiplied) rfl; ⟨_, fd, fun_of F, He.glo_ok X G (c.fact 11 (f := .glo "multiplied") rfl)⟩⟩
  t_unit := ⟨let ⟨fd, F⟩ := c.def_ 12 (d := d_unit) rfl; ⟨_, fd, fun_of F, He.glo_ok X G (c.fact 12 (f := .glo "unit") rfl)⟩⟩
  t_less_multiple := ⟨let ⟨fd, F⟩ := c.def_ 13 (d := d_less_multiple) rfl; ⟨_, fd, fun_of F, He.glo_ok X G (c.fact 13 (f := .glo "less_multiple") rfl)⟩⟩
  t_lead := ⟨let ⟨fd, F⟩ := c.def_ 14 (d := d_lead) rfl; ⟨_, fd, fun_of F, He.glo_ok X G (c.fact 14 (f := .glo "lead") rfl)⟩⟩
  t_is_echelon := ⟨let ⟨fd, F⟩ := c.def_ 15 (d := d_is_echelon) rfl; ⟨_, fd, fun_of F, He.glo_ok X G (c.fact 15 (f := .glo "is_echelon") rfl)⟩⟩
  t_numbers_of := ⟨let ⟨fd, F⟩ := c.def_ 16 (d := d_numbers_of) rfl; ⟨_, fd, fun_of F, He.glo_ok X G (c.fact 16 (f := .glo "numbers_of") rfl)⟩⟩
  t_divides_all := ⟨let ⟨fd, F⟩ := c.def_ 17 (d := d_divides_all) rfl; ⟨_, fd, fun_of F, He.glo_ok X G (c.fact 17 (f := .glo "divides_all") rfl)⟩⟩
  t_is_claim := ⟨let ⟨fd, F⟩ := c.def_ 18 (d := d_is_claim) rfl; ⟨_, fd, fun_of F, He.glo_ok X G (c.fact 18 (f := .glo "is_claim") rfl)⟩⟩
  t_is_product := ⟨let ⟨fd, F⟩ := c.def_ 19 (d := d_is_product) rfl; ⟨_, fd, fun_of F, He.glo_ok X G (c.fact 19 (f := .glo "is_product") rfl)⟩⟩
  t_is_so := ⟨let ⟨fd, F⟩ := c.def_ 20 (d := d_is_so) rfl; ⟨_, fd, fun_of F, He.glo_ok X G (c.fact 20 (f := .glo "is_so") rfl)⟩⟩
  t_wrong_one := ⟨let ⟨fd, F⟩ := c.def_ 21 (d := d_wrong_one) rfl; ⟨_, fd, fun_of F, He.glo_ok X G (c.fact 21 (f := .glo "wrong_one") rfl)⟩⟩
  t_takes := ⟨let ⟨fd, F⟩ := c.def_ 22 (d := d_takes) rfl; ⟨_, fd, fun_of F, He.glo_ok X G (c.fact 22 (f := .glo "takes") rfl)⟩⟩
  t_first_wrong := ⟨let ⟨fd, F⟩ := c.def_ 23 (d := d_first_wrong) rfl; ⟨_, fd, fun_of F, He.glo_ok X G (c.fact 23 (f := .glo "first_wrong") rfl)⟩⟩
  l_clear_column := by
    obtain ⟨fd, F⟩ := c.def_ 24 (d := d_clear_column) rfl
    obtain ⟨oc, od, dV, kV, doc, pm, an, cdv, ct, osl, e, lk, hcd, h4, h5⟩ := F.ex
    obtain ⟨cc, rfl⟩ := He.codeIn_ref hcd
    subst e
    have ec : (He.cT K hcl).1 = cc := He.codeOf_eq (p := hcl) lk rfl
    rcases h4 with ⟨_, z⟩ | ⟨z, _⟩
    · subst z
      subst ec
      exact ⟨⟨_, oc, od, an, kV, doc, pm, ct, osl, lk, hcd, He.glo_ok X G (c.fact 24 (f := .glo "clear_column") rfl), F.kp⟩, T⟩
    · exact absurd rfl z
  t_hermite_ways := ⟨let ⟨fd, F⟩ := c.def_ 25 (d := d_hermite_ways) rfl; ⟨_, fd, fun_of F, He.glo_ok X G (c.fact 25 (f := .glo "hermite_ways") rfl)⟩⟩
  t_in_form := ⟨let ⟨fd, F⟩ := c.def_ 26 (d := d_in_form) rfl; ⟨_, fd, fun_of F, He.glo_ok X G (c.fact 26 (f := .glo "in_form") rfl)⟩⟩
  t_hermite_paper := ⟨let ⟨fd, F⟩ := c.def_ 27 (d := d_hermite_paper) rfl; ⟨_, fd, fun_of F, He.glo_ok X G (c.fact 27 (f := .glo "hermite_paper") rfl)⟩⟩
  t_ways_claims := ⟨let ⟨fd, F⟩ := c.def_ 28 (d := d_ways_claims) rfl; ⟨_, fd, fun_of F, He.glo_ok X G (c.fact 28 (f := .glo "ways_claims") rfl)⟩⟩
  t_hermite_holds := ⟨let ⟨fd, F⟩ := c.def_ 29 (d := d_hermite_holds) rfl; ⟨_, fd, fun_of F, He.glo_ok X G (c.fact 29 (f := .glo "hermite_holds") rfl)⟩⟩
  t_law_draws := ⟨let ⟨fd, F⟩ := c.def_ 30 (d := d_law_draws) rfl; ⟨_, fd, fun_of F, He.glo_ok X G (c.fact 30 (f := .glo "_law_draws") rfl)⟩⟩
  t_law_take := ⟨let ⟨fd, F⟩ := c.def_ 31 (d := d_law_take) rfl; ⟨_, fd, fun_of F, He.glo_ok X G (c.fact 31 (f := .glo "_law_take") rfl)⟩⟩
  t_law_like := ⟨let ⟨fd, F⟩ := c.def_ 32 (d := d_law_like) rfl; ⟨_, fd, fun_of F, He.glo_ok X G (c.fact 32 (f := .glo "_law_like") rfl)⟩⟩
  t_law_rows := ⟨let ⟨fd, F⟩ := c.def_ 33 (d := d_law_rows) rfl; ⟨_, fd, fun_of F, He.glo_ok X G (c.fact 33 (f := .glo "_law_rows") rfl)⟩⟩
  t_law_unit := ⟨let ⟨fd, F⟩ := c.def_ 34 (d := d_law_unit) rfl; ⟨_, fd, fun_of F, He.glo_ok X G (c.fact 34 (f := .glo "_law_unit") rfl)⟩⟩
  t_law_most := ⟨let ⟨fd, F⟩ := c.def_ 35 (d := d_law_most) rfl; ⟨_, fd, fun_of F, He.glo_ok X G (c.fact 35 (f := .glo "_law_most") rfl)⟩⟩
  t_law_deed := ⟨let ⟨fd, F⟩ := c.def_ 36 (d := d_law_deed) rfl; ⟨_, fd, fun_of F, He.glo_ok X G (c.fact 36 (f := .glo "_law_deed") rfl)⟩⟩
  t_law_lead := ⟨let ⟨fd, F⟩ := c.def_ 37 (d := d_law_lead) rfl; ⟨_, fd, fun_of F, He.glo_ok X G (c.fact 37 (f := .glo "_law_lead") rfl)⟩⟩
  t_law_undo := ⟨let ⟨fd, F⟩ := c.def_ 38 (d := d_law_undo) rfl; ⟨_, fd, fun_of F, He.glo_ok X G (c.fact 38 (f := .glo "_law_undo") rfl)⟩⟩
  t_law_times := ⟨let ⟨fd, F⟩ := c.def_ 39 (d := d_law_times) rfl; ⟨_, fd, fun_of F, He.glo_ok X G (c.fact 39 (f := .glo "_law_times") rfl)⟩⟩
  t_law_pair := ⟨let ⟨fd, F⟩ := c.def_ 40 (d := d_law_pair) rfl; ⟨_, fd, fun_of F, He.glo_ok X G (c.fact 40 (f := .glo "_law_pair") rfl)⟩⟩
  t_law_form := ⟨let ⟨fd, F⟩ := c.def_ 41 (d := d_law_form) rfl; ⟨_, fd, fun_of F, He.glo_ok X G (c.fact 41 (f := .glo "_law_form") rfl)⟩⟩
  t_law_sized := ⟨let ⟨fd, F⟩ := c.def_ 42 (d := d_law_sized) rfl; ⟨_, fd, fun_of F, He.glo_ok X G (c.fact 42 (f := .glo "_law_sized") rfl)⟩⟩
  t_law_shows := ⟨let ⟨fd, F⟩ := c.def_ 43 (d := d_law_shows) rfl; ⟨_, fd, fun_of F, He.glo_ok X G (c.fact 43 (f := .glo "_law_shows") rfl)⟩⟩
  t_law_still := ⟨let ⟨fd, F⟩ := c.def_ 44 (d := d_law_still) rfl; ⟨_, fd, fun_of F, He.glo_ok X G (c.fact 44 (f := .glo "_law_still") rfl)⟩⟩
  t_law_paper := ⟨let ⟨fd, F⟩ := c.def_ 45 (d := d_law_paper) rfl; ⟨_, fd, fun_of F, He.glo_ok X G (c.fact 45 (f := .glo "_law_paper") rfl)⟩⟩
  t_law_changed := ⟨let ⟨fd, F⟩ := c.def_ 46 (d := d_law_changed) rfl; ⟨_, fd, fun_of F, He.glo_ok X G (c.fact 46 (f := .glo "_law_changed") rfl)⟩⟩
  t_law_bent := ⟨let ⟨fd, F⟩ := c.def_ 47 (d := d_law_bent) rfl; ⟨_, fd, fun_of F, He.glo_ok X G (c.fact 47 (f := .glo "_law_bent") rfl)⟩⟩
  t_law_other := ⟨let ⟨fd, F⟩ := c.def_ 48 (d := d_law_other) rfl; ⟨_, fd, fun_of F, He.glo_ok X G (c.fact 48 (f := .glo "_law_other") rfl)⟩⟩
  t_law_claimed := ⟨let ⟨fd, F⟩ := c.def_ 49 (d := d_law_claimed) rfl; ⟨_, fd, fun_of F, He.glo_ok X G (c.fact 49 (f := .glo "_law_claimed") rfl)⟩⟩
  t_law_refused := ⟨let ⟨fd, F⟩ := c.def_ 50 (d := d_law_refused) rfl; ⟨_, fd, fun_of F, He.glo_ok X G (c.fact 50 (f := .glo "_law_refused") rfl)⟩⟩
  t_law := ⟨let ⟨fd, F⟩ := c.def_ 51 (d := d_law) rfl; ⟨_, fd, fun_of F, He.glo_ok X G (c.fact 51 (f := .glo "law") rfl)⟩⟩
  cls_Work := He.cls_ok (c.fact 72 (f := .cls "Work") rfl)
  no_rows := He.noat_ok (c.fact 73 (f := .noat "Work" "rows") rfl)
  no_there := He.noat_ok (c.fact 74 (f := .noat "Work" "there") rfl)
  no_back := He.noat_ok (c.fact 75 (f := .noat "Work" "back") rfl)
  mg_Work := He.glo_ok X G (c.fact 81 (f := .glo "Work") rfl)
  in_Work := let ⟨fd, F⟩ := c.def_ 52 (d := d_Work_init) rfl; ⟨_, fd, fun_of F, He.mkr_ok (c.fact 80 (f := .mkr "Work") rfl)⟩
  m_swap := ⟨let ⟨fd, F⟩ := c.def_ 53 (d := d_Work_swap) rfl; ⟨_, fd, fun_of F, He.meth_ok (c.fact 76 (f := .meth "Work" "swap") rfl)⟩⟩
  m_turn := ⟨let ⟨fd, F⟩ := c.def_ 54 (d := d_Work_turn) rfl; ⟨_, fd, fun_of F, He.meth_ok (c.fact 77 (f := .meth "Work" "turn") rfl)⟩⟩
  m_take := ⟨let ⟨fd, F⟩ := c.def_ 55 (d := d_Work_take) rfl; ⟨_, fd, fun_of F, He.meth_ok (c.fact 78 (f := .meth "Work" "take") rfl)⟩⟩
  m_ways := ⟨let ⟨fd, F⟩ := c.def_ 56 (d := d_Work_ways) rfl; ⟨_, fd, fun_of F, He.meth_ok (c.fact 79 (f := .meth "Work" "ways") rfl)⟩⟩
  g_MOST_SIZE := He.int_ok X G (c.fact 70 (f := .int "MOST_SIZE" 8) rfl)
  g_MOST_NUMBER := He.int_ok X G (c.fact 71 (f := .int "MOST_NUMBER" 1000000) rfl)
  g_SIZES := ⟨by
    obtain ⟨es, n, D⟩ := c2.tab 0 rfl
    have h3 : (He.valsB K (He.ga K "SIZES") _ && keysB K (He.ga K "SIZES") _) = true := c3
    rw [Bool.and_eq_true] at h3
    refine ⟨_, es, n, He.glo_ok X G (c.fact 82 (f := .glo "SIZES") rfl), D, fun z => ?_⟩
    by_cases e0 : z = "product"
    · subst e0
      obtain ⟨u, h1, h2⟩ := He.valsB_ok h3.1 (q := ("product", .int 4)) (by simp)
      exact ⟨some u, h1, u, rfl, h2⟩
    by_cases e1 : z = "same"
    · subst e1
      obtain ⟨u, h1, h2⟩ := He.valsB_ok h3.1 (q := ("same", .int 3)) (by simp)
      exact ⟨some u, h1, u, rfl, h2⟩
    by_cases e2 : z = "divides"
    · subst e2
      obtain ⟨u, h1, h2⟩ := He.valsB_ok h3.1 (q := ("divides", .int 3)) (by simp)
      exact ⟨some u, h1, u, rfl, h2⟩
    by_cases e3 : z = "not divides"
    · subst e3
      obtain ⟨u, h1, h2⟩ := He.valsB_ok h3.1 (q := ("not divides", .int 3)) (by simp)
      exact ⟨some u, h1, u, rfl, h2⟩
    by_cases e4 : z = "least"
    · subst e4
      obtain ⟨u, h1, h2⟩ := He.valsB_ok h3.1 (q := ("least", .int 3)) (by simp)
      exact ⟨some u, h1, u, rfl, h2⟩
    by_cases e5 : z = "less"
    · subst e5
      obtain ⟨u, h1, h2⟩ := He.valsB_ok h3.1 (q := ("less", .int 3)) (by simp)
      exact ⟨some u, h1, u, rfl, h2⟩
    by_cases e6 : z = "echelon"
    · subst e6
      obtain ⟨u, h1, h2⟩ := He.valsB_ok h3.1 (q := ("echelon", .int 2)) (by simp)
      exact ⟨some u, h1, u, rfl, h2⟩
    refine ⟨none, keys_none D h3.2 (by simp [e0, e1, e2, e3, e4, e5, e6]), ?_⟩
    have e : tab_SIZES z = none := by
      unfold tab_SIZES
      rw [if_neg e0, if_neg e1, if_neg e2, if_neg e3, if_neg e4, if_neg e5, if_neg e6]
    rw [e]⟩
  seer := N
  tree := ht }
theorem hfacts {P : Program} {w : World} {K : PySem.W.Frag} {h : Heap} {mg : Str → Option Value} {f : Addr} (X : K.In h) (G : h.Ns mainGlobals mg) (N : h.NoSeer) (ht : P.given.tree = none) (hfa' : mg ("law" : Str) = some (.ref f)) (c : TellsY w h K) :
    ∃ fd : FuncData, (∀ (s : Shared) (v : Value), BindsTo s fd ⟨[v], []⟩ [("script", v)]) ∧ ∀ base : Heap, K.In base → base.Ns mainGlobals mg → (∀ p ∈ [He.cT K hcl], LamX.TabB base mg p.1 p.2) → FnOk P w K mg base CX0 37 f fd ["script"] (@spLaw (wkOf K) K) := by
  have cd := c.t.d
  obtain ⟨fd, F⟩ := cd.def_ 51 (d := d_law) rfl
  have e := hfa'.symm.trans (He.glo_ok X G (cd.fact 51 (f := .glo "law") rfl))
  cases e
  have b := FunD.bindsA (ps := ["script"]) F fun _ _ _ _ _ _ us hl => match us, hl with | [_], _ => rfl
  exact ⟨fd, fun s v => b s [v] rfl, fun base KB GB TB => @ok_law (wkOf K) ⟨P, w, K, mg, base⟩ _ _ (hwd X G cd c.t (Bool.and_eq_true_iff.mp c.more).2 (TB _ (List.mem_singleton.mpr rfl)) (seer_of N X KB (Bool.and_eq_true_iff.mp c.more).1 GB (TB _ (List.mem_singleton.mpr rfl))) ht) (fun_of F)⟩
end Ab
open PySem PySem.W PySem.Calls PyProof.Rows
theorem PySem.Challenge.cw_multipliedout_k05_whole_ways_there_and_b_holds : PySem.Challenge.rw_multipliedout_k05_whole_ways_there_and_b.Holds := by
  w_on; o_law
  refine HandSHeadRun.head_any (r := OpenLaw.row PySem.Challenge.rw_multipliedout_k05_whole_ways_there_and_b) (q := view (OpenLaw.row PySem.Challenge.rw_multipliedout_k05_whole_ways_there_and_b).prog [63]) (H := Ab.hhk) (ob := Ab.hob) (M := 20000) (loose := Ab.hloose) (d := HandSHeadRun.topDef (OpenLaw.row PySem.Challenge.rw_multipliedout_k05_whole_ways_there_and_b).prog 63) (kwd := []) Ab.hob_eq
    (by kernel_rfl) (fun s => by kernel_rfl) Ab.hrun (by kernel_rfl) (by kernel_rfl) (by kernel_rfl) (by rfl) (by first | assumption | decide +kernel) (by decide +kernel) ⟨rfl, rfl, rfl, rfl, rfl, by decide +kernel⟩ ?hw ?hc
  case hw => w_witness2
  case hc =>
    refine Att.attach_callB (l := PySem.Challenge.rw_multipliedout_k05_whole_ways_there_and_b) (n := 63) rfl (by kernel_rfl) fun w s₀ s₁ mg mb fa u pm cd doc a vs ns G Y hu hd hcd hmg0 hobj hints hlen hbits hg => ?_
    obtain ⟨K, KX, c⟩ := Y
    have hmg : mg ("law" : PySem.Str) = some (.ref fa) := by
      have e : (HandSHeadRun.topDef (OpenLaw.row PySem.Challenge.rw_multipliedout_k05_whole_ways_there_and_b).prog 63).name = ("law" : PySem.Str) := by kernel_rfl
      rw [← e]
      exact hmg0
    obtain ⟨fd, hb, hF⟩ := Ab.hfacts (P := (PySem.Challenge.rw_multipliedout_k05_whole_ways_there_and_b).prog) (w := w) KX G.T.g (G.T.seer (by kernel_rfl)) rfl hmg c
    exact LamX.law_callTs (k := 37) (cs := [He.cT K Ab.hcl]) (sp := @Ab.spLaw (Ab.wkOf K) K) KX G.T.g G.T.b G.T.builtins G.T.nolimit hg
      (fun p hp => by
        obtain rfl := List.mem_singleton.mp hp
        exact c.empty _ (List.mem_singleton.mpr rfl))
      (fun p hp => by
        obtain rfl := List.mem_singleton.mp hp
        exact c.out _ (List.mem_singleton.mpr rfl))
      (fun p hp => by
        obtain rfl := List.mem_singleton.mp hp
        exact codeHd_of_K KX (c.hd _ (List.mem_singleton.mpr rfl)))
      G.T.bmain hobj hints (Nat.le_trans hlen (by decide)) ⟨rfl, by decide, by decide⟩ hF hb
      (fun H hH hS => ⟨a, ns, rfl, hS, hlen, fun p hp => by
        obtain rfl := List.mem_singleton.mp hp
        exact LamX.TabS.nil (hH _ (List.mem_singleton.mpr rfl)), fun _ => rfl⟩)
      fun _ _ _ z => z
