import PyProof.Rows.All
import Wide.All
import OpenK.AllK
import Wide.FinOn
import PyProof.EqAt
import PyProof.EqKinds
import PyProof.TupleCall
import KE.KStateDown
import HandS.Base
import HandS.Call
import HandS.List
import HandS.Comp
import HandS.Lambda
import HandS.Exc
import HandS.ExcOwn
import HandS.Words
import HandS.WordsList
import HandS.TupAny
import HandS.TupMul
import HandS.Wide
import HandS.IsInst
import HandS.Style
import HandS.Dict
import HandS.Iter
import HandS.Zip
import HandS.More
import HandS.TupLe
import HandS.Conv
import HandS.Rev
import PyProof.ListRange
import HandS.Deep
import KE.GoesEnum
import PyProof.StrOps2
import HandS.Nested
import HandS.SortKw
import KE.KMinKey
import HandS.Ends
import HandS.WordsExc
import HandS.Defaults
import HandS.Head0
import HandS.Head1
import HandS.Head2
import HandS.HeadEnd
import HandS.HeadHook1
import HandS.HeadHook2
import HandS.HeadHook3
import HandS.HeadHook4
import HandS.EndBits
import HandS.EndTab
import HandS.HeadWalk
import PySem.Challenge.RW_multipliedout_k04_whole_hermite_by_minor
set_option Elab.async false
set_option linter.all false
set_option maxRecDepth 100000
set_option maxHeartbeats 4000000
section
set_option autoImplicit false
/-! Ab: a machine of plain data over the hand layer. Data never change; lists that do are numbered cells. -/
namespace Ab
open PySem PySem.Spec PyProof.Rows L2

inductive D where
  | non | bl (b : Bool) | int (i : Int) | str (s : Str) | tup (ds : List D) | lst (ds : List D) | dct (ks : List Key) (ds : List D)

mutual
inductive Rep (I : Hp) : D → V → Prop
  | non : Rep I .non .non
  | bl (b : Bool) : Rep I (.bl b) (.bl b)
  | int (i : Int) : Rep I (.int i) (.int i)
  | str (s : Str) : Rep I (.str s) (.str s)
  | tup {a : Addr} {xs : List V} {ds : List D} (h : I a = some (.tup xs)) (r : Reps I ds xs) : Rep I (.tup ds) (.ref a)
  | lst {a : Addr} {xs : List V} {ds : List D} (h : I a = some (.lst xs)) (r : Reps I ds xs) : Rep I (.lst ds) (.ref a)
  | dct {a : Addr} {kvs : List (Key × V)} {ds : List D} (h : I a = some (.dK kvs)) (r : Reps I ds (kvs.map (·.2))) : Rep I (.dct (kvs.map (·.1)) ds) (.ref a)
inductive Reps (I : Hp) : List D → List V → Prop
  | nil : Reps I [] []
  | cons {d : D} {ds : List D} {v : V} {vs : List V} (h : Rep I d v) (r : Reps I ds vs) : Reps I (d :: ds) (v :: vs)
end

def Ex (H H' : Hp) : Prop := ∀ a o, H a = some o → H' a = some o
theorem Ex.refl (H : Hp) : Ex H H := fun _ _ h => h
theorem Ex.trans {H H1 H2 : Hp} (a : Ex H H1) (b : Ex H1 H2) : Ex H H2 := fun x o h => b x o (a x o h)
theorem Ex.non {I H : Hp} {p : Addr} (e : Ex I H) (h : H p = none) : I p = none := by
  cases q : I p with
  | none => rfl
  | some o =>
    rw [e p o q] at h
    cases h
theorem Ex.new {H : Hp} {p : Addr} {o : HO} (h : H p = none) : Ex H (upd H p o) := fun a u e => by
  rw [upd_ne (ne_of_none e h)]
  exact e
theorem Ex.mut {I H : Hp} {p : Addr} {o : HO} (e : Ex I H) (h : I p = none) : Ex I (upd H p o) := fun a u ha => by
  rw [upd_ne (ne_of_none ha h)]
  exact e a u ha
theorem Ex.upd {I H : Hp} {p : Addr} {o : HO} (e : Ex I H) : Ex (upd I p o) (upd H p o) := fun a u ha => by
  by_cases h : a = p
  · subst h
    rw [upd_same] at ha ⊢
    exact ha
  · rw [upd_ne h] at ha ⊢
    exact e a u ha

mutual
theorem Rep.mono {I I' : Hp} (e : Ex I I') : ∀ {d : D} {v : V}, Rep I d v → Rep I' d v
  | _, _, .non => .non
  | _, _, .bl b => .bl b
  | _, _, .int i => .int i
  | _, _, .str s => .str s
  | _, _, .tup h r => .tup (e _ _ h) (Reps.mono e r)
  | _, _, .lst h r => .lst (e _ _ h) (Reps.mono e r)
  | _, _, .dct h r => .dct (e _ _ h) (Reps.mono e r)
theorem Reps.mono {I I' : Hp} (e : Ex I I') : ∀ {ds : List D} {vs : List V}, Reps I ds vs → Reps I' ds vs
  | _, _, .nil => .nil
  | _, _, .cons h r => .cons (Rep.mono e h) (Reps.mono e r)
end
theorem Reps.length {I : Hp} : ∀ {ds : List D} {vs : List V}, Reps I ds vs → ds.length = vs.length
  | _, _, .nil => rfl
  | _, _, .cons _ r => by rw [List.length_cons, List.length_cons, Reps.length r]
theorem Reps.get {I : Hp} : ∀ {ds : List D} {vs : List V} {i : Nat} {d : D}, Reps I ds vs → ds[i]? = some d → ∃ v, vs[i]? = some v ∧ Rep I d v
  | _, _, _, _, .nil, e => by simp at e
  | _, _, 0, _, .cons h _, e => by
    simp at e
    subst e
    exact ⟨_, rfl, h⟩
  | _, _, i + 1, _, .cons _ r, e => by
    obtain ⟨v, h1, h2⟩ := Reps.get (i := i) r (by simpa using e)
    exact ⟨v, by simpa using h1, h2⟩
theorem Reps.append {I : Hp} : ∀ {ds es : List D} {vs ws : List V}, Reps I ds vs → Reps I es ws → Reps I (ds ++ es) (vs ++ ws)
  | _, _, _, _, .nil, s => s
  | _, _, _, _, .cons h r, s => .cons h (Reps.append r s)
theorem Reps.take {I : Hp} : ∀ {ds : List D} {vs : List V} (n : Nat), Reps I ds vs → Reps I (ds.take n) (vs.take n)
  | _, _, 0, _ => .nil
  | _, _, _ + 1, .nil => .nil
  | _, _, n + 1, .cons h r => .cons h (Reps.take n r)
theorem Reps.drop {I : Hp} : ∀ {ds : List D} {vs : List V} (n : Nat), Reps I ds vs → Reps I (ds.drop n) (vs.drop n)
  | _, _, 0, r => r
  | _, _, _ + 1, .nil => .nil
  | _, _, n + 1, .cons _ r => Reps.drop n r
theorem Reps.reverse {I : Hp} : ∀ {ds : List D} {vs : List V}, Reps I ds vs → Reps I ds.reverse vs.reverse
  | _, _, .nil => .nil
  | _, _, .cons h r => by
    rw [List.reverse_cons, List.reverse_cons]
    exact Reps.append (Reps.reverse r) (.cons h .nil)
theorem Reps.rep {I : Hp} {ds : List D} {vs : List V} (h : Reps I ds vs) : ∀ n : Nat, Reps I (List.replicate n ds).flatten (List.replicate n vs).flatten
  | 0 => .nil
  | n + 1 => by
    rw [List.replicate_succ, List.replicate_succ, List.flatten_cons, List.flatten_cons]
    exact Reps.append h (Reps.rep h n)

/-! ### slots, cells -/
inductive O where
  | no | dat (d : D) | adr (k : Nat) | scr (a : Addr) (u : Option HO) | obj (C : Addr) (fs : List (Str × Nat))
abbrev Mem := List (Option (List O))

theorem prUn {α β γ : Type} {F : β → γ → Prop} {m : α → β} : ∀ {l : List α} {k : List γ}, Paired F (l.map m) k → Paired (fun a c => F (m a) c) l k
  | [], _, .nil => .nil
  | _ :: _, _, .cons h r => .cons h (prUn r)
theorem prImp {α β : Type} {F G : α → β → Prop} : ∀ {l : List α} {k : List β}, Paired F l k → (∀ a ∈ l, ∀ b, F a b → G a b) → Paired G l k
  | _, _, .nil, _ => .nil
  | _, _, .cons h r, q => .cons (q _ List.mem_cons_self _ h) (prImp r fun a ha => q a (List.mem_cons_of_mem _ ha))
theorem prLeft {α β : Type} {F : α → β → Prop} : ∀ {l : List α} {k : List β}, Paired F l k → ∀ a ∈ l, ∃ b, F a b
  | _, _, .cons h r, a, ha => by
    rcases List.mem_cons.mp ha with e | e
    · subst e
      exact ⟨_, h⟩
    · exact prLeft r a e
theorem prDo {α β γ : Type} {F : β → γ → Prop} {m : α → β} : ∀ {l : List α} {k : List γ}, Paired (fun a c => F (m a) c) l k → Paired F (l.map m) k
  | [], _, .nil => .nil
  | _ :: _, _, .cons h r => .cons h (prDo r)
theorem prMap {α β : Type} {F G : α → β → Prop} {l : List α} {k : List β} (h : Paired F l k) (q : ∀ a b, F a b → G a b) : Paired G l k := prImp h fun a _ b z => q a b z
def Vo (I : Hp) (adr : List Addr) : O → V → Prop
  | .no, _ => True
  | .dat d, v => Rep I d v
  | .adr k, v => ∃ a, adr[k]? = some a ∧ v = .ref a
  | .scr a u, v => v = .ref a ∧ ∀ o, u = some o → I a = some o
  | .obj C fs, v => ∃ p dx gs, v = .ref p ∧ I p = some (.ins C dx gs) ∧ Paired (fun (f : Str × Nat) (g : Str × V) => f.1 = g.1 ∧ ∃ a, adr[f.2]? = some a ∧ g.2 = .ref a) fs gs
def Vso (I : Hp) (adr : List Addr) (o : O) (ov : Option V) : Prop := match ov with
  | some v => Vo I adr o v
  | none => o = .no
abbrev Vs (I : Hp) (adr : List Addr) : List O → List V → Prop := Paired (Vo I adr)

/-- the tables of code objects that grow -/
class TabCtx where
  T : List (Addr × Str)
/-- all but such tables -/
def NT (u : HO) : Prop := ∀ ps, u ≠ .tbl ps
theorem NT.lst {xs : List V} : NT (.lst xs) := fun _ z => by cases z
theorem NT.tup {xs : List V} : NT (.tup xs) := fun _ z => by cases z
theorem NT.dK {xs : List (Key × V)} : NT (.dK xs) := fun _ z => by cases z
variable [TabCtx]
structure Amb (I H : Hp) : Prop where
  tabs : LamX.Tabs TabCtx.T H
  nt : ∀ a u, I a = some u → NT u
theorem Amb.same {I I' H : Hp} (a : Amb I H) (h : ∀ b u, I' b = some u → NT u) : Amb I' H := ⟨a.tabs, h⟩
theorem Amb.new {I H : Hp} {p : Addr} {o : HO} (a : Amb I H) (hp : H p = none) : Amb I (upd H p o) := ⟨a.tabs.ext fun b u h => by rw [upd_ne (ne_of_none h hp)]; exact h, a.nt⟩
theorem Amb.ext {I H : Hp} {p : Addr} {o : HO} (a : Amb I H) (hp : H p = none) (ho : NT o) : Amb (upd I p o) (upd H p o) := ⟨(a.new hp).tabs, fun b u h => by
  by_cases e : b = p
  · subst e
    rw [upd_same] at h
    cases h
    exact ho
  · rw [upd_ne e] at h
    exact a.nt b u h⟩
theorem Amb.wri {I H : Hp} {p : Addr} {xs ys : List V} (a : Amb I H) (hp : H p = some (.lst xs)) : Amb I (upd H p (.lst ys)) := ⟨fun q hq => by
  obtain ⟨ps, h1, h2, h3⟩ := a.tabs q hq
  have ne : ∀ b u, H b = some u → (∀ zs, u ≠ .lst zs) → b ≠ p := fun b u h n z => by
    rw [z, hp] at h
    exact n xs (Option.some.inj h).symm
  refine ⟨ps, by rw [upd_ne (ne _ _ h1 (fun _ z => by cases z))]; exact h1, h2, fun pos cv hc => ?_⟩
  obtain ⟨c, e1, e2⟩ := h3 pos cv hc
  exact ⟨c, e1, by rw [upd_ne (ne _ _ e2 (fun _ z => by unfold LamX.CodeO at z; cases z))]; exact e2⟩, a.nt⟩
structure Sto (I H : Hp) (adr : List Addr) (M : Mem) : Prop where
  len : adr.length = M.length
  nd : adr.Nodup
  cell : ∀ (k : Nat) (a : Addr) (os : List O), adr[k]? = some a → M[k]? = some (some os) → I a = none ∧ ∃ xs, H a = some (.lst xs) ∧ Vs I adr os xs
  dom : ∀ (k : Nat) (a : Addr), adr[k]? = some a → ∃ u, H a = some u ∧ NT u
  amb : Amb I H
structure Stt (I H : Hp) (adr : List Addr) (σ : L2.St) (E : List O) (M : Mem) : Prop where
  ex : Ex I H
  sto : Sto I H adr M
  len : E.length = σ.length
  slot : ∀ (i : Nat) (o : O) (ov : Option V), E[i]? = some o → σ[i]? = some ov → Vso I adr o ov
def Frs (H : Hp) (p : Addr) : Prop := ∀ u, H p = some u → ¬ NT u
theorem Frs.of {H : Hp} {p : Addr} (h : H p = none) : Frs H p := fun u e => by rw [h] at e; cases e
structure Grow (I H : Hp) (adr : List Addr) (I' H' : Hp) (adr' : List Addr) : Prop where
  ex : Ex I I'
  new : ∃ nw, adr' = adr ++ nw ∧ ∀ p ∈ nw, Frs H p
  keep : ∀ p u, H p = some u → NT u → p ∉ adr → H' p = some u
  dom : ∀ p u, H p = some u → NT u → ∃ u', H' p = some u' ∧ NT u'
  out : ∀ p u, H p = some u → NT u → I p = none → p ∉ adr → I' p = none
  code : ∀ c q, H c = some (LamX.CodeO c q) → H' c = some (LamX.CodeO c q)

section
variable {I H I1 H1 I2 H2 I' H' : Hp} {adr adr1 adr2 adr' : List Addr} {σ : L2.St} {E : List O} {M M' : Mem}
theorem Grow.refl : Grow I H adr I H adr := ⟨Ex.refl _, ⟨[], by simp, by simp⟩, fun _ _ h _ _ => h, fun _ u h n => ⟨u, h, n⟩, fun _ _ _ _ h _ => h, fun _ _ h => h⟩
theorem Grow.trans (a : Grow I H adr I1 H1 adr1) (b : Grow I1 H1 adr1 I2 H2 adr2) : Grow I H adr I2 H2 adr2 := by
  obtain ⟨nw, rfl, hn⟩ := a.new
  obtain ⟨nv, rfl, hv⟩ := b.new
  have nin : ∀ p u, H p = some u → NT u → p ∉ adr → p ∉ adr ++ nw := fun p u h n q z => by
    rcases List.mem_append.mp z with z | z
    · exact q z
    · exact hn p z u h n
  refine ⟨a.ex.trans b.ex, ⟨nw ++ nv, by rw [List.append_assoc], fun p hp => ?_⟩, fun p u h n q => b.keep p u (a.keep p u h n q) n (nin p u h n q), fun p u h n => ?_, fun p u h n q r => b.out p u (a.keep p u h n r) n (a.out p u h n q r) (nin p u h n r), fun c q h => b.code c q (a.code c q h)⟩
  · rcases List.mem_append.mp hp with z | z
    · exact hn p z
    · intro u q n
      obtain ⟨u', e, n'⟩ := a.dom p u q n
      exact hv p z u' e n'
  · obtain ⟨u', e, n'⟩ := a.dom p u h n
    exact b.dom p u' e n'
theorem Grow.get (g : Grow I H adr I' H' adr') {k : Nat} {a : Addr} (h : adr[k]? = some a) : adr'[k]? = some a := by
  obtain ⟨nw, rfl, _⟩ := g.new
  rw [List.getElem?_append_left (List.getElem?_eq_some_iff.mp h).1]
  exact h
theorem Vo.mono (g : Grow I H adr I' H' adr') : ∀ {o : O} {v : V}, Vo I adr o v → Vo I' adr' o v
  | .no, _, _ => True.intro
  | .dat _, _, h => Rep.mono g.ex h
  | .adr _, _, h => by
    obtain ⟨a, h1, h2⟩ := h
    exact ⟨a, g.get h1, h2⟩
  | .scr _ _, _, h => ⟨h.1, fun o q => g.ex _ _ (h.2 o q)⟩
  | .obj _ _, _, h => by
    obtain ⟨p, dx, gs, h1, h2, h3⟩ := h
    exact ⟨p, dx, gs, h1, g.ex _ _ h2, prMap h3 fun f g' q => ⟨q.1, let ⟨a, e1, e2⟩ := q.2; ⟨a, g.get e1, e2⟩⟩⟩
theorem Vo.ext (e : Ex I I') : ∀ {o : O} {v : V}, Vo I adr o v → Vo I' adr o v
  | .no, _, _ => True.intro
  | .dat _, _, h => Rep.mono e h
  | .adr _, _, h => h
  | .scr _ _, _, h => ⟨h.1, fun o q => e _ _ (h.2 o q)⟩
  | .obj _ _, _, h => by
    obtain ⟨p, dx, gs, h1, h2, h3⟩ := h
    exact ⟨p, dx, gs, h1, e _ _ h2, h3⟩
theorem Vo.more {nw : List Addr} : ∀ {o : O} {v : V}, Vo I adr o v → Vo I (adr ++ nw) o v
  | .no, _, _ => True.intro
  | .dat _, _, h => h
  | .adr _, _, h => by
    obtain ⟨a, h1, h2⟩ := h
    exact ⟨a, by rw [List.getElem?_append_left (List.getElem?_eq_some_iff.mp h1).1]; exact h1, h2⟩
  | .scr _ _, _, h => h
  | .obj _ _, _, h => by
    obtain ⟨p, dx, gs, h1, h2, h3⟩ := h
    exact ⟨p, dx, gs, h1, h2, prMap h3 fun f g' q => ⟨q.1, let ⟨a, e1, e2⟩ := q.2; ⟨a, by rw [List.getElem?_append_left (List.getElem?_eq_some_iff.mp e1).1]; exact e1, e2⟩⟩⟩
theorem Vs.mono (g : Grow I H adr I' H' adr') : ∀ {os : List O} {vs : List V}, Vs I adr os vs → Vs I' adr' os vs
  | _, _, .nil => .nil
  | _, _, .cons h r => .cons (Vo.mono g h) (Vs.mono g r)
theorem Vs.ext (e : Ex I I') : ∀ {os : List O} {vs : List V}, Vs I adr os vs → Vs I' adr os vs
  | _, _, .nil => .nil
  | _, _, .cons h r => .cons (Vo.ext e h) (Vs.ext e r)
theorem Vs.more {nw : List Addr} : ∀ {os : List O} {vs : List V}, Vs I adr os vs → Vs I (adr ++ nw) os vs
  | _, _, .nil => .nil
  | _, _, .cons h r => .cons (Vo.more h) (Vs.more r)
theorem Vs.app : ∀ {os ps : List O} {vs ws : List V}, Vs I adr os vs → Vs I adr ps ws → Vs I adr (os ++ ps) (vs ++ ws)
  | _, _, _, _, .nil, s => s
  | _, _, _, _, .cons h r, s => .cons h (Vs.app r s)
theorem Vs.length {os : List O} {vs : List V} (h : Vs I adr os vs) : os.length = vs.length := Paired.length h
theorem Vs.get : ∀ {os : List O} {vs : List V} {i : Nat} {o : O}, Vs I adr os vs → os[i]? = some o → ∃ v, vs[i]? = some v ∧ Vo I adr o v
  | _, _, _, _, .nil, e => by simp at e
  | _, _, 0, _, .cons h _, e => by
    simp at e
    subst e
    exact ⟨_, rfl, h⟩
  | _, _, i + 1, _, .cons _ r, e => by
    obtain ⟨v, h1, h2⟩ := Vs.get (i := i) r (by simpa using e)
    exact ⟨v, by simpa using h1, h2⟩
theorem Vs.set {o : O} {v : V} (h : Vo I adr o v) : ∀ {os : List O} {vs : List V} (i : Nat), Vs I adr os vs → Vs I adr (os.set i o) (vs.set i v)
  | _, _, _, .nil => .nil
  | _, _, 0, .cons _ r => .cons h r
  | _, _, i + 1, .cons q r => .cons q (Vs.set h i r)
theorem Vs.take : ∀ {os : List O} {vs : List V} (n : Nat), Vs I adr os vs → Vs I adr (os.take n) (vs.take n)
  | _, _, 0, _ => .nil
  | _, _, _ + 1, .nil => .nil
  | _, _, n + 1, .cons h r => .cons h (Vs.take n r)
theorem Vs.drop : ∀ {os : List O} {vs : List V} (n : Nat), Vs I adr os vs → Vs I adr (os.drop n) (vs.drop n)
  | _, _, 0, r => r
  | _, _, _ + 1, .nil => .nil
  | _, _, n + 1, .cons _ r => Vs.drop n r
theorem Vs.dropLast : ∀ {os : List O} {vs : List V}, Vs I adr os vs → Vs I adr os.dropLast vs.dropLast
  | _, _, .nil => .nil
  | _, _, .cons _ .nil => .nil
  | _, _, .cons h (.cons h2 r) => .cons h (Vs.dropLast (.cons h2 r))
theorem Vs.reps : ∀ {ds : List D} {vs : List V}, Reps I ds vs → Vs I adr (ds.map .dat) vs
  | _, _, .nil => .nil
  | _, _, .cons h r => .cons h (Vs.reps r)
theorem Vs.to : ∀ {ds : List D} {vs : List V}, Vs I adr (ds.map .dat) vs → Reps I ds vs
  | [], _, .nil => .nil
  | _ :: _, _, .cons h r => .cons h (Vs.to r)
theorem Vso.mono (g : Grow I H adr I' H' adr') {o : O} : ∀ {ov : Option V}, Vso I adr o ov → Vso I' adr' o ov
  | some _, h => Vo.mono g h
  | none, h => h
theorem Stt.mono (s : Stt I H adr σ E M) (g : Grow I H adr I' H' adr') (e : Ex I' H') (t : Sto I' H' adr' M') : Stt I' H' adr' σ E M' :=
  ⟨e, t, s.len, fun i o ov h1 h2 => (s.slot i o ov h1 h2).mono g⟩
theorem Stt.inB (s : Stt I H adr σ E M) {k : Nat} {a : Addr} (h : adr[k]? = some a) : k < M.length := by
  rw [← s.sto.len]
  exact (List.getElem?_eq_some_iff.mp h).1
/-- a new thing that never changes -/
theorem Sto.ext {o : HO} {p : Addr} (t : Sto I H adr M) (hi : I p = none) (hp : H p = none) (ho : NT o) : Sto (upd I p o) (upd H p o) adr M := by
  have ne : ∀ (k : Nat) (a : Addr), adr[k]? = some a → a ≠ p := fun k a h => by
    obtain ⟨u, e, _⟩ := t.dom k a h
    exact ne_of_none e hp
  refine ⟨t.len, t.nd, fun k a os h1 h2 => ?_, fun k a h => ?_, t.amb.ext hp ho⟩
  · obtain ⟨h3, xs, h4, h5⟩ := t.cell k a os h1 h2
    refine ⟨by rw [upd_ne (ne k a h1)]; exact h3, xs, by rw [upd_ne (ne k a h1)]; exact h4, ?_⟩
    exact h5.ext (Ex.new hi)
  · obtain ⟨u, e, n⟩ := t.dom k a h
    exact ⟨u, by rw [upd_ne (ne k a h)]; exact e, n⟩
theorem Grow.ext {o : HO} {p : Addr} (hi : I p = none) (hp : H p = none) : Grow I H adr (upd I p o) (upd H p o) adr := by
  refine ⟨Ex.new hi, ⟨[], by simp, by simp⟩, fun q u h _ _ => ?_, fun q u h n => ⟨u, ?_, n⟩, fun q u h _ h2 _ => ?_, fun c q h => by rw [upd_ne (ne_of_none h hp)]; exact h⟩
  · rw [upd_ne (ne_of_none h hp)]; exact h
  · rw [upd_ne (ne_of_none h hp)]; exact h
  · rw [upd_ne (ne_of_none h hp)]; exact h2
theorem Stt.ext {o : HO} {p : Addr} (s : Stt I H adr σ E M) (hp : H p = none) (ho : NT o) : Stt (upd I p o) (upd H p o) adr σ E M ∧ Grow I H adr (upd I p o) (upd H p o) adr := by
  have hi := s.ex.non hp
  have g : Grow I H adr (upd I p o) (upd H p o) adr := Grow.ext hi hp
  exact ⟨s.mono g s.ex.upd (s.sto.ext hi hp ho), g⟩
theorem Stt.tup {p : Addr} {xs : List V} {ds : List D} (s : Stt I H adr σ E M) (hp : H p = none) (r : Reps I ds xs) :
    Stt (upd I p (.tup xs)) (upd H p (.tup xs)) adr σ E M ∧ Grow I H adr (upd I p (.tup xs)) (upd H p (.tup xs)) adr ∧ Rep (upd I p (.tup xs)) (.tup ds) (.ref p) :=
  let ⟨a, b⟩ := s.ext (o := .tup xs) hp NT.tup
  ⟨a, b, .tup upd_same (r.mono b.ex)⟩
theorem Stt.lst {p : Addr} {xs : List V} {ds : List D} (s : Stt I H adr σ E M) (hp : H p = none) (r : Reps I ds xs) :
    Stt (upd I p (.lst xs)) (upd H p (.lst xs)) adr σ E M ∧ Grow I H adr (upd I p (.lst xs)) (upd H p (.lst xs)) adr ∧ Rep (upd I p (.lst xs)) (.lst ds) (.ref p) :=
  let ⟨a, b⟩ := s.ext (o := .lst xs) hp NT.lst
  ⟨a, b, .lst upd_same (r.mono b.ex)⟩
/-- a new cell -/
theorem Stt.cel {p : Addr} {xs : List V} {os : List O} (s : Stt I H adr σ E M) (hp : H p = none) (r : Vs I adr os xs) :
    Stt I (upd H p (.lst xs)) (adr ++ [p]) σ E (M ++ [some os]) ∧ Grow I H adr I (upd H p (.lst xs)) (adr ++ [p]) ∧ (adr ++ [p])[M.length]? = some p := by
  have hi := s.ex.non hp
  have ne : ∀ (k : Nat) (a : Addr), adr[k]? = some a → a ≠ p := fun k a h => by
    obtain ⟨u, e, _⟩ := s.sto.dom k a h
    exact ne_of_none e hp
  have g : Grow I H adr I (upd H p (.lst xs)) (adr ++ [p]) := by
    refine ⟨Ex.refl _, ⟨[p], rfl, fun q hq => by rw [List.mem_singleton.mp hq]; exact Frs.of hp⟩, fun q u h _ _ => ?_, fun q u h n => ⟨u, ?_, n⟩, fun q u h _ h2 _ => h2, fun c q h => by rw [upd_ne (ne_of_none h hp)]; exact h⟩
    · rw [upd_ne (ne_of_none h hp)]; exact h
    · rw [upd_ne (ne_of_none h hp)]; exact h
  have at_p : (adr ++ [p])[M.length]? = some p := by
    rw [← s.sto.len, List.getElem?_append_right (Nat.le_refl _), Nat.sub_self]
    rfl
  have old : ∀ (k : Nat) (a : Addr), (adr ++ [p])[k]? = some a → (k < adr.length ∧ adr[k]? = some a) ∨ (k = adr.length ∧ a = p) := fun k a h => by
    by_cases hk : k < adr.length
    · rw [List.getElem?_append_left hk] at h
      exact .inl ⟨hk, h⟩
    · rw [List.getElem?_append_right (Nat.le_of_not_lt hk)] at h
      have hk2 : k - adr.length = 0 := by
        have := (List.getElem?_eq_some_iff.mp h).1
        simp at this
        omega
      rw [hk2] at h
      simp at h
      exact .inr ⟨by omega, h.symm⟩
  refine ⟨s.mono g (s.ex.mut hi) ⟨by simp [s.sto.len], ?_, fun k a os' h1 h2 => ?_, fun k a h => ?_, s.sto.amb.new hp⟩, g, at_p⟩
  · rw [List.nodup_append]
    refine ⟨s.sto.nd, by simp, fun a ha b hb z => ?_⟩
    obtain ⟨k, hk⟩ := List.getElem?_of_mem ha
    rw [List.mem_singleton] at hb
    exact ne k a hk (z.trans hb)
  · rcases old k a h1 with ⟨hk, h3⟩ | ⟨hk, rfl⟩
    · rw [List.getElem?_append_left (by rw [← s.sto.len]; exact hk)] at h2
      obtain ⟨c1, ys, c2, c3⟩ := s.sto.cell k a os' h3 h2
      exact ⟨c1, ys, by rw [upd_ne (ne k a h3)]; exact c2, c3.more⟩
    · rw [hk, s.sto.len, List.getElem?_append_right (Nat.le_refl _), Nat.sub_self] at h2
      have e : os = os' := by simpa using h2
      subst e
      exact ⟨hi, xs, upd_same, r.more⟩
  · rcases old k a h with ⟨hk, h3⟩ | ⟨hk, rfl⟩
    · obtain ⟨u, e, n⟩ := s.sto.dom k a h3
      exact ⟨u, by rw [upd_ne (ne k a h3)]; exact e, n⟩
    · exact ⟨_, upd_same, NT.lst⟩
/-- a cell is written -/
theorem Stt.wri {k : Nat} {a : Addr} {xs : List V} {os os0 : List O} (s : Stt I H adr σ E M) (ha : adr[k]? = some a) (hm : M[k]? = some (some os0)) (r : Vs I adr os xs) :
    Stt I (upd H a (.lst xs)) adr σ E (M.set k (some os)) ∧ Grow I H adr I (upd H a (.lst xs)) adr := by
  obtain ⟨hi, ys, hy, _⟩ := s.sto.cell k a os0 ha hm
  have hin : a ∈ adr := List.mem_of_getElem? ha
  have g : Grow I H adr I (upd H a (.lst xs)) adr := by
    refine ⟨Ex.refl _, ⟨[], by simp, by simp⟩, fun q u h _ hq => ?_, fun q u h n => ?_, fun q u h _ h2 _ => h2, fun c q h => by rw [upd_ne (fun z => by rw [z, hy] at h; unfold LamX.CodeO at h; cases h)]; exact h⟩
    · rw [upd_ne (fun z => hq (by rw [z]; exact hin))]; exact h
    · by_cases z : q = a
      · subst z; exact ⟨_, upd_same, NT.lst⟩
      · exact ⟨u, by rw [upd_ne z]; exact h, n⟩
  have uniq : ∀ (j : Nat) (b : Addr), adr[j]? = some b → j ≠ k → b ≠ a := fun j b hb hj z => by
    subst z
    exact hj (List.getElem?_inj (List.getElem?_eq_some_iff.mp hb).1 s.sto.nd |>.mp (hb.trans ha.symm))
  refine ⟨s.mono g (s.ex.mut hi) ⟨by rw [List.length_set]; exact s.sto.len, s.sto.nd, fun j b ps h1 h2 => ?_, fun j b h => ?_, s.sto.amb.wri hy⟩, g⟩
  · by_cases hj : j = k
    · subst hj
      rw [h1] at ha
      cases ha
      rw [List.getElem?_set_self (s.inB h1)] at h2
      have e : os = ps := by simpa using h2
      subst e
      exact ⟨hi, xs, upd_same, r⟩
    · rw [List.getElem?_set_ne (fun z => hj z.symm)] at h2
      obtain ⟨c1, zs, c2, c3⟩ := s.sto.cell j b ps h1 h2
      exact ⟨c1, zs, by rw [upd_ne (uniq j b h1 hj)]; exact c2, c3⟩
  · by_cases z : b = a
    · subst z; exact ⟨_, upd_same, NT.lst⟩
    · obtain ⟨u, e, n⟩ := s.sto.dom j b h
      exact ⟨u, by rw [upd_ne z]; exact e, n⟩
/-- a cell of data is frozen -/
theorem Stt.frz {k : Nat} {a : Addr} {ds : List D} (s : Stt I H adr σ E M) (ha : adr[k]? = some a) (hm : M[k]? = some (some (ds.map .dat))) :
    ∃ I', Stt I' H adr σ E (M.set k none) ∧ Grow I H adr I' H adr ∧ Rep I' (.lst ds) (.ref a) := by
  obtain ⟨hi, ys, hy, hr⟩ := s.sto.cell k a _ ha hm
  have hin : a ∈ adr := List.mem_of_getElem? ha
  have g : Grow I H adr (upd I a (.lst ys)) H adr := by
    refine ⟨Ex.new hi, ⟨[], by simp, by simp⟩, fun q u h _ hq => h, fun q u h n => ⟨u, h, n⟩, fun q u h _ h2 hq => ?_, fun _ _ h => h⟩
    rw [upd_ne (fun z => hq (by rw [z]; exact hin))]; exact h2
  have ex : Ex (upd I a (.lst ys)) H := fun q u h => by
    by_cases z : q = a
    · subst z; rw [upd_same] at h; cases h; exact hy
    · rw [upd_ne z] at h; exact s.ex q u h
  refine ⟨upd I a (.lst ys), s.mono g ex ⟨by rw [List.length_set]; exact s.sto.len, s.sto.nd, fun j b ps h1 h2 => ?_, s.sto.dom, s.sto.amb.same fun b u h => ?_⟩, g, .lst upd_same (hr.to.mono g.ex)⟩
  · by_cases hj : j = k
    · subst hj
      rw [List.getElem?_set_self (s.inB h1)] at h2
      cases h2
    · rw [List.getElem?_set_ne (fun z => hj z.symm)] at h2
      obtain ⟨c1, zs, c2, c3⟩ := s.sto.cell j b ps h1 h2
      have ne : b ≠ a := fun z => by
        subst z
        exact hj (List.getElem?_inj (List.getElem?_eq_some_iff.mp h1).1 s.sto.nd |>.mp (h1.trans ha.symm))
      exact ⟨by rw [upd_ne ne]; exact c1, zs, c2, c3.ext g.ex⟩
  · by_cases e : b = a
    · subst e
      rw [upd_same] at h
      cases h
      exact NT.lst
    · rw [upd_ne e] at h
      exact s.sto.amb.nt b u h
theorem Stt.set {i : Nat} {o : O} {v : V} (s : Stt I H adr σ E M) (h : Vo I adr o v) : Stt I H adr (σ.set i (some v)) (E.set i o) M := by
  refine ⟨s.ex, s.sto, by rw [List.length_set, List.length_set]; exact s.len, fun j p ov h1 h2 => ?_⟩
  by_cases hj : j = i
  · subst hj
    by_cases hl : j < E.length
    · rw [List.getElem?_set_self hl] at h1
      rw [List.getElem?_set_self (by rw [← s.len]; exact hl)] at h2
      cases h1
      cases h2
      exact h
    · have := (List.getElem?_eq_some_iff.mp h1).1
      rw [List.length_set] at this
      exact absurd this hl
  · rw [List.getElem?_set_ne (fun z => hj z.symm)] at h1 h2
    exact s.slot j p ov h1 h2
theorem Stt.frame {k : Nat} (s : Stt I H adr σ E M) : Stt I H adr [] [] M := ⟨s.ex, s.sto, rfl, fun i o ov h _ => by simp at h⟩
end
end Ab
/-! Ab: judgements. -/
namespace Ab
open PySem PySem.Spec PyProof.Rows L2
variable [TabCtx]

/-! ### readings -/
def Ev (t : TE) (E : List O) (M : Mem) (o : O) (M' : Mem) : Prop :=
  ∀ (I H : Hp) (adr : List Addr) (σ : L2.St) (Q : VK), Stt I H adr σ E M → (∀ v I' H' adr', Stt I' H' adr' σ E M' → Grow I H adr I' H' adr' → Vo I' adr' o v → Q v H') → t σ H Q
def Et (t : TT) (E : List O) (M : Mem) (b : Bool) (M' : Mem) : Prop :=
  ∀ (I H : Hp) (adr : List Addr) (σ : L2.St) (Q : Bool → Hp → Prop), Stt I H adr σ E M → (∀ I' H' adr', Stt I' H' adr' σ E M' → Grow I H adr I' H' adr' → Q b H') → t σ H Q
def Ea (t : TA) (E : List O) (M : Mem) (os : List O) (M' : Mem) : Prop :=
  ∀ (I H : Hp) (adr : List Addr) (σ : L2.St) (Q : List V → Hp → Prop), Stt I H adr σ E M → (∀ vs I' H' adr', Stt I' H' adr' σ E M' → Grow I H adr I' H' adr' → Vs I' adr' os vs → Q vs H') → t σ H Q
inductive Out where
  | nx (E : List O) (M : Mem) | rt (o : O) (M : Mem) | bk (E : List O) (M : Mem) | ct (E : List O) (M : Mem)
def End (D : Ends) (I H : Hp) (adr : List Addr) : Out → Prop
  | .nx E M => ∀ I' H' adr' σ', Stt I' H' adr' σ' E M → Grow I H adr I' H' adr' → D.nx σ' H'
  | .rt o M => ∀ v I' H' adr', Stt I' H' adr' [] [] M → Grow I H adr I' H' adr' → Vo I' adr' o v → D.rt v H'
  | .bk E M => ∀ I' H' adr' σ', Stt I' H' adr' σ' E M → Grow I H adr I' H' adr' → D.bk σ' H'
  | .ct E M => ∀ I' H' adr' σ', Stt I' H' adr' σ' E M → Grow I H adr I' H' adr' → D.ct σ' H'
theorem End.mono {D : Ends} {I H I1 H1 : Hp} {adr adr1 : List Addr} (g : Grow I H adr I1 H1 adr1) : ∀ {r : Out}, End D I H adr r → End D I1 H1 adr1 r
  | .nx _ _, h => fun I' H' adr' σ' s k => h I' H' adr' σ' s (g.trans k)
  | .rt _ _, h => fun v I' H' adr' s k => h v I' H' adr' s (g.trans k)
  | .bk _ _, h => fun I' H' adr' σ' s k => h I' H' adr' σ' s (g.trans k)
  | .ct _ _, h => fun I' H' adr' σ' s k => h I' H' adr' σ' s (g.trans k)
def Do (t : TS) (E : List O) (M : Mem) (r : Out) : Prop :=
  ∀ (I H : Hp) (adr : List Addr) (σ : L2.St) (D : Ends), Stt I H adr σ E M → End D I H adr r → t D σ H

/-! ### contexts -/
structure Pg where
  P : Program
  w : World
  K : PySem.W.Frag
  mg : Str → Option Value
  base : Heap
structure Cc where
  g : Pg
  N : List Str
  sc : Scope
  fn : Str → Bool
  k : Nat
  W : WX
  cd : Option (Value × Str)
structure CxIs (C : Cc) (X : Cx) : Prop where
  P : X.prog = C.g.P
  w : X.w = C.g.w
  K : X.K = C.g.K
  mg : X.mg = C.g.mg
  base : X.base = C.g.base
  N : X.N = C.N
  sc : X.env.scope = C.sc
  calm : X.calm = true
  room : Room C.k X.A
  po : PassesOwn (model X.prog X.w) X.A X.env X.xe
  tk : L2.Takes X C.W
  fn : ∀ x, C.fn x = true → X.fn x = true
  cd : ∀ c q, C.cd = some (c, q) → X.env.code = c ∧ X.env.qual = q
  fr : ∃ env l, X.stack = env :: l ∧ env.scope.isGenerator = false ∧ env.scope.isCoroutine = false ∧ env.builtins = builtinsNs ∧ env.globals = mainGlobals

def UE (C : Cc) (e : Expr) : TE := fun σ H Q => ∃ t : TE, (∀ X, CxIs C X → PE X e t) ∧ t σ H Q
def UT (C : Cc) (e : Expr) : TT := fun σ H Q => ∃ t : TT, (∀ X, CxIs C X → PT X e t) ∧ t σ H Q
def UW (C : Cc) (e : Expr) : TT := fun σ H Q => ∃ t : TT, (∀ X, CxIs C X → PW X e t) ∧ t σ H Q
def UA (C : Cc) (es : List Expr) : TA := fun σ H Q => ∃ t : TA, (∀ X, CxIs C X → PA X es t) ∧ t σ H Q
def US (C : Cc) (st : Stmt) : TS := fun D σ H => ∃ t : TS, (∀ X, CxIs C X → PS X st t) ∧ t D σ H
def UB (C : Cc) (sts : List Stmt) : TS := fun D σ H => ∃ t : TS, (∀ X, CxIs C X → PSs X sts t) ∧ t D σ H
theorem ue {C : Cc} {X : Cx} (h : CxIs C X) (e : Expr) : PE X e (UE C e) := ⟨fun pins s σ H Q I q => let ⟨_, p, q⟩ := q; (p X h).run pins s σ H Q I q⟩
theorem ut {C : Cc} {X : Cx} (h : CxIs C X) (e : Expr) : PT X e (UT C e) := ⟨fun pins s σ H Q I q => let ⟨_, p, q⟩ := q; (p X h).run pins s σ H Q I q⟩
theorem uw {C : Cc} {X : Cx} (h : CxIs C X) (e : Expr) : PW X e (UW C e) := ⟨fun wh pins s σ H Q I q => let ⟨_, p, q⟩ := q; (p X h).run wh pins s σ H Q I q⟩
theorem ua {C : Cc} {X : Cx} (h : CxIs C X) (es : List Expr) : PA X es (UA C es) := ⟨fun pos pins s σ H Q I q => let ⟨_, p, q⟩ := q; (p X h).run pos pins s σ H Q I q⟩
theorem us {C : Cc} {X : Cx} (h : CxIs C X) (st : Stmt) : PS X st (US C st) := ⟨fun pins s σ H D I q => let ⟨_, p, q⟩ := q; (p X h).run pins s σ H D I q⟩
theorem ub {C : Cc} {X : Cx} (h : CxIs C X) (sts : List Stmt) : PSs X sts (UB C sts) := ⟨fun pins s σ H D I q => let ⟨_, p, q⟩ := q; (p X h).run pins s σ H D I q⟩

def EV (C : Cc) (e : Expr) (E : List O) (M : Mem) (o : O) (M' : Mem) : Prop := Ev (UE C e) E M o M'
def ET (C : Cc) (e : Expr) (E : List O) (M : Mem) (b : Bool) (M' : Mem) : Prop := Et (UT C e) E M b M'
def EW (C : Cc) (e : Expr) (E : List O) (M : Mem) (b : Bool) (M' : Mem) : Prop := Et (UW C e) E M b M'
def EA (C : Cc) (es : List Expr) (E : List O) (M : Mem) (os : List O) (M' : Mem) : Prop := Ea (UA C es) E M os M'
def ST (C : Cc) (st : Stmt) (E : List O) (M : Mem) (r : Out) : Prop := Do (US C st) E M r
def SB (C : Cc) (sts : List Stmt) (E : List O) (M : Mem) (r : Out) : Prop := Do (UB C sts) E M r

section
variable {C : Cc} {E : List O} {M M1 M2 M3 M' : Mem} {o o1 o2 o3 : O} {os : List O} {e a b c : Expr} {pos pos' : Pos} {r : Out} {d d1 d2 : D} {ta tb te : TE}
theorem EV.mk {t : TE} (h1 : ∀ X, CxIs C X → PE X e t) (h2 : Ev t E M o M') : EV C e E M o M' := fun I H adr σ Q s q => ⟨t, h1, h2 I H adr σ Q s q⟩
theorem ET.mk {t : TT} {b : Bool} (h1 : ∀ X, CxIs C X → PT X e t) (h2 : Et t E M b M') : ET C e E M b M' := fun I H adr σ Q s q => ⟨t, h1, h2 I H adr σ Q s q⟩
theorem EW.mk {t : TT} {b : Bool} (h1 : ∀ X, CxIs C X → PW X e t) (h2 : Et t E M b M') : EW C e E M b M' := fun I H adr σ Q s q => ⟨t, h1, h2 I H adr σ Q s q⟩
theorem EA.mk {es : List Expr} {t : TA} (h1 : ∀ X, CxIs C X → PA X es t) (h2 : Ea t E M os M') : EA C es E M os M' := fun I H adr σ Q s q => ⟨t, h1, h2 I H adr σ Q s q⟩
theorem ST.mk {st : Stmt} {t : TS} (h1 : ∀ X, CxIs C X → PS X st t) (h2 : Do t E M r) : ST C st E M r := fun I H adr σ D s q => ⟨t, h1, h2 I H adr σ D s q⟩
theorem SB.mk {sts : List Stmt} {t : TS} (h1 : ∀ X, CxIs C X → PSs X sts t) (h2 : Do t E M r) : SB C sts E M r := fun I H adr σ D s q => ⟨t, h1, h2 I H adr σ D s q⟩

/-! ### names, constants -/
theorem EV.to {o' : O} (h : EV C e E M o M') (q : o = o') : EV C e E M o' M' := q ▸ h
theorem ev_name {i : Nat} (h : E[i]? = some o) (hn : o ≠ .no) : Ev (tVar i) E M o M := fun I H adr σ Q s q => by
  have hl : i < σ.length := by
    rw [← s.len]
    exact (List.getElem?_eq_some_iff.mp h).1
  have h2 : σ[i]? = some σ[i] := List.getElem?_eq_getElem hl
  have h3 := s.slot i o _ h h2
  cases hv : σ[i] with
  | none =>
    rw [hv] at h3
    exact absurd h3 hn
  | some v =>
    rw [hv] at h3 h2
    exact ⟨v, h2, q v I H adr s Grow.refl h3⟩
theorem EV.nm (i : Nat) {x : Str} (hN : C.N[i]? = some x := by rfl) (h : E[i]? = some o := by rfl) (hn : o ≠ .no := by intro z; cases z) (hv : Vis C.sc x := by first | exact Or.inl rfl | exact Or.inr (Or.inl rfl) | exact Or.inr (Or.inr rfl))
    (hd : (x == ("__debug__" : Str)) = false := by decide) (hcd : (x == ("__classdict__" : Str)) = false := by decide) : EV C (.Name x pos) E M o M :=
  EV.mk (fun X hX => pe_var (by rw [hX.N]; exact hN) (by rw [hX.sc]; exact hv) hd hcd) (ev_name h hn)
theorem ev_c {v : V} (h : ∀ I, Rep I d v) : Ev (tC v) E M (.dat d) M := fun I H adr σ Q s q => q v I H adr s Grow.refl (h I)
theorem EV.int {i : Int} {j : Nat} : EV C (.Constant (.int i) j pos) E M (.dat (.int i)) M := EV.mk (fun _ _ => pe_int) (ev_c fun _ => .int i)
theorem EV.bl {i : Bool} {j : Nat} : EV C (.Constant (.bool i) j pos) E M (.dat (.bl i)) M := EV.mk (fun _ _ => pe_bl) (ev_c fun _ => .bl i)
theorem EV.non {j : Nat} : EV C (.Constant .none j pos) E M (.dat .non) M := EV.mk (fun _ _ => pe_non) (ev_c fun _ => .non)
theorem EV.str {x : Str} {j : Nat} : EV C (.Constant (.str x) j pos) E M (.dat (.str x)) M := EV.mk (fun _ _ => pe_str) (ev_c fun _ => .str x)
theorem EV.gint {x : Str} {i : Int} {t : Tok} (hm : C.g.mg x = some (.int i t)) (hg : C.sc.names.lookup x = some .globalImplicit := by rfl) (hd : (x == ("__debug__" : Str)) = false := by decide) : EV C (.Name x pos) E M (.dat (.int i)) M :=
  EV.mk (fun X hX => pe_glob (v := .int i) (u := .int i t) (by show X.env.scope.names.lookup x = _; rw [hX.sc]; exact hg) (by rw [hX.mg]; exact hm) ⟨t, rfl⟩ hd) (ev_c fun _ => .int i)

/-! ### operators -/
def RO (r : R2) (o1 o2 : O) (M : Mem) (o : O) (M' : Mem) : Prop :=
  ∀ (I H : Hp) (adr : List Addr) (σ : L2.St) (E : List O) (v w : V) (Q : VK), Stt I H adr σ E M → Vo I adr o1 v → Vo I adr o2 w → (∀ z I' H' adr', Stt I' H' adr' σ E M' → Grow I H adr I' H' adr' → Vo I' adr' o z → Q z H') → r v w H Q
theorem ev_op {r : R2} (ha : Ev ta E M o1 M1) (hb : Ev tb E M1 o2 M2) (hr : RO r o1 o2 M2 o M') : Ev (tOp r ta tb) E M o M' := fun I H adr σ Q s q =>
  ha I H adr σ _ s fun v I1 H1 adr1 s1 g1 v1 => hb I1 H1 adr1 σ _ s1 fun w I2 H2 adr2 s2 g2 w2 =>
    hr I2 H2 adr2 σ E v w Q s2 (v1.mono g2) w2 fun z I3 H3 adr3 s3 g3 z3 => q z I3 H3 adr3 s3 ((g1.trans g2).trans g3) z3
theorem EV.op {op : Operator} {r : R2} (ha : EV C a E M o1 M1) (hb : EV C b E M1 o2 M2) (ho : ∀ X, CxIs C X → OpR X (binaryOp op) r) (hr : RO r o1 o2 M2 o M') : EV C (.BinOp a op b pos) E M o M' :=
  EV.mk (fun X hX => pe_op (ho X hX) (ue hX a) (ue hX b)) (ev_op ha hb hr)
theorem EV.cmp {op : CmpOp} {r : R2} (ha : EV C a E M o1 M1) (hb : EV C b E M1 o2 M2) (ho : ∀ X, CxIs C X → OpR X (compareOp op) r) (hr : RO r o1 o2 M2 o M') (hm : behindInMarks op b = false) : EV C (.Compare a [op] [b] pos) E M o M' :=
  EV.mk (fun X hX => pe_cmpR (ho X hX) (ue hX a) (ue hX b) hm) (ev_op ha hb hr)
theorem et_test {b : Bool} (h : Ev te E M (.dat (.bl b)) M') : Et (tTest te) E M b M' := fun I H adr σ Q s q =>
  h I H adr σ _ s fun v I1 H1 adr1 s1 g1 v1 => by
    cases (show Rep I1 (.bl b) v from v1)
    exact ⟨b, rfl, q I1 H1 adr1 s1 g1⟩
theorem et_B {b : Bool} (h : Ev te E M (.dat (.bl b)) M') : Et (tB te) E M b M' := fun I H adr σ Q s q =>
  h I H adr σ _ s fun v I1 H1 adr1 s1 g1 v1 => by
    cases (show Rep I1 (.bl b) v from v1)
    exact ⟨b, rfl, q I1 H1 adr1 s1 g1⟩
theorem ET.cmp {op : CmpOp} {r : R2} {k : Bool} (ha : EV C a E M o1 M1) (hb : EV C b E M1 o2 M2) (ho : ∀ X, CxIs C X → OpR X (compareOp op) r) (hr : RO r o1 o2 M2 (.dat (.bl k)) M') (hm : behindInMarks op b = false) : ET C (.Compare a [op] [b] pos) E M k M' :=
  ET.mk (fun X hX => pt_cmpR (ho X hX) (ue hX a) (ue hX b) hm) (et_test (ev_op ha hb hr))
/-- a test by its value, a bool -/
theorem ET.val {k : Bool} (h : EV C e E M (.dat (.bl k)) M') (he : ∀ env whole, isTrue e env whole = (do let v ← whole; standAt e.pos; holding [v] (truthy v)) := by intro _ _; rfl) : ET C e E M k M' :=
  ET.mk (fun X hX => pt_val (ue hX e) (he X.env)) (et_B h)
theorem tru_lst {K : PySem.W.Frag} {H : Hp} {p : Addr} {xs : List V} (h : H p = some (.lst xs)) : TruV K (.ref p) H (!xs.isEmpty) := .inl ⟨xs, .inl (.inl h), rfl⟩
theorem tru_tup {K : PySem.W.Frag} {H : Hp} {p : Addr} {xs : List V} (h : H p = some (.tup xs)) : TruV K (.ref p) H (!xs.isEmpty) := .inr (.inl ⟨xs, .inl (.inl h), rfl⟩)
/-- a value's truth -/
def tru : D → Option Bool
  | .non => some false
  | .bl b => some b
  | .int i => some (i != 0)
  | .lst ds => some (!ds.isEmpty)
  | .tup ds => some (!ds.isEmpty)
  | _ => none
theorem isEmpty_reps {I : Hp} {ds : List D} {xs : List V} (r : Reps I ds xs) : ds.isEmpty = xs.isEmpty := by cases r <;> rfl
theorem tru_of {K : PySem.W.Frag} {I H : Hp} {v : V} {k : Bool} (e : Ex I H) (h : Rep I d v) (t : tru d = some k) : TruV K v H k := by
  cases h with
  | non => exact (Option.some.inj t).symm
  | bl b => exact (Option.some.inj t).symm
  | int i => exact (Option.some.inj t).symm
  | str s => cases t
  | tup h r =>
    cases t
    rw [isEmpty_reps r]
    exact tru_tup (e _ _ h)
  | lst h r =>
    cases t
    rw [isEmpty_reps r]
    exact tru_lst (e _ _ h)
  | dct h r => cases t
theorem ET.tru {k : Bool} (h : EV C e E M (.dat d) M') (t : tru d = some k) (he : ∀ env whole, isTrue e env whole = (do let v ← whole; standAt e.pos; holding [v] (truthy v)) := by intro _ _; rfl) : ET C e E M k M' :=
  ET.mk (t := fun σ H Q => UE C e σ H fun x H' => ∃ k, TruV C.g.K x H' k ∧ Q k H') (fun X hX => by
    have := pt_truth (ue hX e) (he X.env)
    rw [hX.K] at this
    exact this) fun I H adr σ Q s q => h I H adr σ _ s fun v I1 H1 adr1 s1 g1 v1 => ⟨k, tru_of s1.ex v1 t, q I1 H1 adr1 s1 g1⟩

/-! ### and, or, not -/
theorem pt_dead {X : Cx} : PT X e (fun _ _ _ => False) := ⟨fun _ _ _ _ _ _ h => h.elim⟩
theorem pw_dead {X : Cx} : PW X e (fun _ _ _ => False) := ⟨fun _ _ _ _ _ _ _ h => h.elim⟩
theorem pe_dead {X : Cx} : PE X e (fun _ _ _ => False) := ⟨fun _ _ _ _ _ _ h => h.elim⟩
theorem EW.et {k : Bool} (h : EW C e E M k M') : ET C e E M k M' := ET.mk (fun X hX => (uw hX e).pt) h
theorem EW.and1 {k : Bool} (h : ET C a E M k M') : EW C (.BoolOp .And [a] pos) E M k M' := EW.mk (fun X hX => pw_and1 (ut hX a)) h
theorem EW.or1 {k : Bool} (h : ET C a E M k M') : EW C (.BoolOp .Or [a] pos) E M k M' := EW.mk (fun X hX => pw_or1 (ut hX a)) h
theorem EW.and {k1 k2 : Bool} {rest : List Expr} (ha : ET C a E M k1 M1) (hb : k1 = true → EW C (.BoolOp .And (b :: rest) pos) E M1 k2 M2) (hm : k1 = false → M2 = M1) : EW C (.BoolOp .And (a :: b :: rest) pos) E M (k1 && k2) M2 := by
  cases k1 with
  | true =>
    refine EW.mk (fun X hX => pw_and (ut hX a) (uw hX _)) fun I H adr σ Q s q => ?_
    refine ha I H adr σ _ s fun I1 H1 adr1 s1 g1 => ?_
    show UW C _ σ H1 Q
    exact hb rfl I1 H1 adr1 σ Q s1 fun I2 H2 adr2 s2 g2 => q I2 H2 adr2 s2 (g1.trans g2)
  | false =>
    cases hm rfl
    refine EW.mk (fun X hX => pw_and (ut hX a) pw_dead) fun I H adr σ Q s q => ?_
    refine ha I H adr σ _ s fun I1 H1 adr1 s1 g1 => ?_
    show Q false H1
    exact q I1 H1 adr1 s1 g1
theorem EW.or {k1 k2 : Bool} {rest : List Expr} (ha : ET C a E M k1 M1) (hb : k1 = false → EW C (.BoolOp .Or (b :: rest) pos) E M1 k2 M2) (hm : k1 = true → M2 = M1) : EW C (.BoolOp .Or (a :: b :: rest) pos) E M (k1 || k2) M2 := by
  cases k1 with
  | false =>
    refine EW.mk (fun X hX => pw_or (ut hX a) (uw hX _)) fun I H adr σ Q s q => ?_
    refine ha I H adr σ _ s fun I1 H1 adr1 s1 g1 => ?_
    show UW C _ σ H1 Q
    exact hb rfl I1 H1 adr1 σ Q s1 fun I2 H2 adr2 s2 g2 => q I2 H2 adr2 s2 (g1.trans g2)
  | true =>
    cases hm rfl
    refine EW.mk (fun X hX => pw_or (ut hX a) pw_dead) fun I H adr σ Q s q => ?_
    refine ha I H adr σ _ s fun I1 H1 adr1 s1 g1 => ?_
    show Q true H1
    exact q I1 H1 adr1 s1 g1
theorem ET.not {k : Bool} (h : ET C a E M k M') : ET C (.UnaryOp .Not a pos) E M (!k) M' :=
  ET.mk (fun X hX => pt_not (ut hX a)) fun I H adr σ Q s q => h I H adr σ _ s fun I1 H1 adr1 s1 g1 => q I1 H1 adr1 s1 g1
/-- the same as values, where all parts are bools -/
theorem EV.and1 (h : EV C a E M o M') : EV C (.BoolOp .And [a] pos) E M o M' := EV.mk (fun X hX => pe_one (ue hX a)) h
theorem EV.or1 (h : EV C a E M o M') : EV C (.BoolOp .Or [a] pos) E M o M' := EV.mk (fun X hX => pe_one (ue hX a)) h
theorem EV.and {k1 k2 : Bool} {rest : List Expr} (ha : EV C a E M (.dat (.bl k1)) M1) (hb : k1 = true → EV C (.BoolOp .And (b :: rest) pos) E M1 (.dat (.bl k2)) M2) (hm : k1 = false → M2 = M1) : EV C (.BoolOp .And (a :: b :: rest) pos) E M (.dat (.bl (k1 && k2))) M2 := by
  cases k1 with
  | true =>
    refine EV.mk (fun X hX => pe_and (ue hX a) (ue hX _)) fun I H adr σ Q s q => ?_
    refine ha I H adr σ _ s fun v I1 H1 adr1 s1 g1 v1 => ?_
    cases (show Rep I1 (.bl true) v from v1)
    refine ⟨true, rfl, ?_⟩
    show UE C _ σ H1 Q
    exact hb rfl I1 H1 adr1 σ Q s1 fun z I2 H2 adr2 s2 g2 z2 => q z I2 H2 adr2 s2 (g1.trans g2) z2
  | false =>
    cases hm rfl
    refine EV.mk (fun X hX => pe_and (ue hX a) pe_dead) fun I H adr σ Q s q => ?_
    refine ha I H adr σ _ s fun v I1 H1 adr1 s1 g1 v1 => ?_
    cases (show Rep I1 (.bl false) v from v1)
    refine ⟨false, rfl, ?_⟩
    show Q (.bl false) H1
    exact q _ I1 H1 adr1 s1 g1 (.bl false)
theorem EV.or {k1 k2 : Bool} {rest : List Expr} (ha : EV C a E M (.dat (.bl k1)) M1) (hb : k1 = false → EV C (.BoolOp .Or (b :: rest) pos) E M1 (.dat (.bl k2)) M2) (hm : k1 = true → M2 = M1) : EV C (.BoolOp .Or (a :: b :: rest) pos) E M (.dat (.bl (k1 || k2))) M2 := by
  cases k1 with
  | false =>
    refine EV.mk (fun X hX => pe_or (ue hX a) (ue hX _)) fun I H adr σ Q s q => ?_
    refine ha I H adr σ _ s fun v I1 H1 adr1 s1 g1 v1 => ?_
    cases (show Rep I1 (.bl false) v from v1)
    refine ⟨false, rfl, ?_⟩
    show UE C _ σ H1 Q
    exact hb rfl I1 H1 adr1 σ Q s1 fun z I2 H2 adr2 s2 g2 z2 => q z I2 H2 adr2 s2 (g1.trans g2) z2
  | true =>
    cases hm rfl
    refine EV.mk (fun X hX => pe_or (ue hX a) pe_dead) fun I H adr σ Q s q => ?_
    refine ha I H adr σ _ s fun v I1 H1 adr1 s1 g1 v1 => ?_
    cases (show Rep I1 (.bl true) v from v1)
    refine ⟨true, rfl, ?_⟩
    show Q (.bl true) H1
    exact q _ I1 H1 adr1 s1 g1 (.bl true)
theorem EV.not {k : Bool} (h : EV C a E M (.dat (.bl k)) M') : EV C (.UnaryOp .Not a pos) E M (.dat (.bl (!k))) M' :=
  EV.mk (fun X hX => pe_not (ue hX a)) fun I H adr σ Q s q => h I H adr σ _ s fun v I1 H1 adr1 s1 g1 v1 => by
    cases (show Rep I1 (.bl k) v from v1)
    exact ⟨k, rfl, q _ I1 H1 adr1 s1 g1 (.bl _)⟩
theorem EV.ite {k : Bool} (hc : ET C c E M k M1) (h1 : k = true → EV C a E M1 o M') (h2 : k = false → EV C b E M1 o M') : EV C (.IfExp c a b pos) E M o M' := by
  cases k with
  | true =>
    refine EV.mk (fun X hX => pe_ifExp (ut hX c) (ue hX a) pe_dead) fun I H adr σ Q s q => ?_
    refine hc I H adr σ _ s fun I1 H1 adr1 s1 g1 => ?_
    show UE C a σ H1 Q
    exact h1 rfl I1 H1 adr1 σ Q s1 fun z I2 H2 adr2 s2 g2 z2 => q z I2 H2 adr2 s2 (g1.trans g2) z2
  | false =>
    refine EV.mk (fun X hX => pe_ifExp (ut hX c) pe_dead (ue hX b)) fun I H adr σ Q s q => ?_
    refine hc I H adr σ _ s fun I1 H1 adr1 s1 g1 => ?_
    show UE C b σ H1 Q
    exact h2 rfl I1 H1 adr1 σ Q s1 fun z I2 H2 adr2 s2 g2 z2 => q z I2 H2 adr2 s2 (g1.trans g2) z2

/-! ### argument lists, tuples, lists -/
theorem EA.nil : EA C [] E M [] M := EA.mk (fun _ _ => pa_nil) fun I H adr σ Q s q => q [] I H adr s Grow.refl .nil
theorem EA.cons {es : List Expr} (h : EV C a E M o M1) (hr : EA C es E M1 os M') (hs : ∀ env, starEach (a :: es) env = (false, eval a env) :: starEach es env := by intro _; rfl) : EA C (a :: es) E M (o :: os) M' :=
  EA.mk (fun X hX => pa_cons (ue hX a) (ua hX es) (hs X.env)) fun I H adr σ Q s q => h I H adr σ _ s fun v I1 H1 adr1 s1 g1 v1 =>
    hr I1 H1 adr1 σ _ s1 fun vs I2 H2 adr2 s2 g2 v2 => q (v :: vs) I2 H2 adr2 s2 (g1.trans g2) (.cons (v1.mono g2) v2)
theorem sz_of {n : Nat} (h : n ≤ 100000) : n ≤ sizeLine := Nat.le_trans h (by decide)
theorem sz_lt {n : Nat} (h : n < 100000) : n < sizeLine := Nat.lt_of_lt_of_le h (by decide)
theorem EV.tup {es : List Expr} {ds : List D} {k : Nat} (h : EA C es E M (ds.map .dat) M') (hz : ds.length ≤ 100000) : EV C (.Tuple es k pos) E M (.dat (.tup ds)) M' :=
  EV.mk (fun X hX => pe_tup (ua hX es)) fun I H adr σ Q s q => h I H adr σ _ s fun vs I1 H1 adr1 s1 g1 v1 =>
    ⟨by rw [← v1.to.length]; exact sz_of hz, fun p hp => let ⟨s2, g2, r2⟩ := s1.tup hp v1.to; q _ _ _ _ s2 (g1.trans g2) r2⟩
/-- a list display that never changes -/
theorem EV.lst {es : List Expr} {ds : List D} (h : EA C es E M (ds.map .dat) M') (hz : ds.length ≤ 100000) : EV C (.List es pos) E M (.dat (.lst ds)) M' :=
  EV.mk (fun X hX => pe_lst (ua hX es)) fun I H adr σ Q s q => h I H adr σ _ s fun vs I1 H1 adr1 s1 g1 v1 =>
    ⟨by rw [← v1.to.length]; exact sz_of hz, fun p hp => let ⟨s2, g2, r2⟩ := s1.lst hp v1.to; q _ _ _ _ s2 (g1.trans g2) r2⟩
/-- .. that is a cell -/
theorem EV.cel {es : List Expr} (h : EA C es E M os M') (hz : os.length ≤ 100000) : EV C (.List es pos) E M (.adr M'.length) (M' ++ [some os]) :=
  EV.mk (fun X hX => pe_lst (ua hX es)) fun I H adr σ Q s q => h I H adr σ _ s fun vs I1 H1 adr1 s1 g1 v1 =>
    ⟨by rw [← v1.length]; exact sz_of hz, fun p hp => let ⟨s2, g2, r2⟩ := s1.cel hp v1; q _ _ _ _ s2 (g1.trans g2) ⟨p, r2, rfl⟩⟩

/-! ### statements -/
theorem SB.nil : SB C [] E M (.nx E M) := SB.mk (fun _ _ => pss_nil) fun I H adr σ D s q => q I H adr σ s Grow.refl
theorem SB.cons {st : Stmt} {sts : List Stmt} {E1 : List O} (h : ST C st E M (.nx E1 M1)) (hr : SB C sts E1 M1 r) : SB C (st :: sts) E M r :=
  SB.mk (fun X hX => pss_cons (us hX st) (ub hX sts)) fun I H adr σ D s q =>
    h I H adr σ { D with nx := UB C sts D } s fun I1 H1 adr1 σ1 s1 g1 => hr I1 H1 adr1 σ1 D s1 (q.mono g1)
theorem pss_dead {X : Cx} {sts : List Stmt} : PSs X sts (fun _ _ _ => False) := ⟨fun _ _ _ _ _ _ h => h.elim⟩
theorem ps_dead {X : Cx} {st : Stmt} : PS X st (fun _ _ _ => False) := ⟨fun _ _ _ _ _ _ h => h.elim⟩
/-- a statement behind which nothing is done -/
def Out.ends : Out → Bool
  | .nx _ _ => false
  | _ => true
theorem SB.stop {st : Stmt} {sts : List Stmt} (h : ST C st E M r) (he : r.ends = true := by rfl) : SB C (st :: sts) E M r :=
  SB.mk (fun X hX => pss_cons (us hX st) pss_dead) fun I H adr σ D s q => h I H adr σ { D with nx := fun _ _ => False } s (by
    cases r with
    | nx _ _ => cases he
    | rt _ _ => exact q
    | bk _ _ => exact q
    | ct _ _ => exact q)
theorem SB.one {st : Stmt} (h : ST C st E M r) : SB C [st] E M r := SB.mk (fun X hX => pss_one (us hX st)) h
theorem ST.pass : ST C (.Pass pos) E M (.nx E M) := ST.mk (fun _ _ => ps_pass) fun I H adr σ D s q => q I H adr σ s Grow.refl
theorem ST.brk : ST C (.Break pos) E M (.bk E M) := ST.mk (fun _ _ => ps_break) fun I H adr σ D s q => q I H adr σ s Grow.refl
theorem ST.cont : ST C (.Continue pos) E M (.ct E M) := ST.mk (fun _ _ => ps_continue) fun I H adr σ D s q => q I H adr σ s Grow.refl
theorem ST.ret (h : EV C e E M o M') : ST C (.Return (some e) pos) E M (.rt o M') :=
  ST.mk (fun X hX => ps_ret (ue hX e)) fun I H adr σ D s q => h I H adr σ _ s fun v I1 H1 adr1 s1 g1 v1 => q v I1 H1 adr1 ⟨s1.ex, s1.sto, rfl, fun i o ov h _ => by simp at h⟩ g1 v1
theorem ST.retN : ST C (.Return none pos) E M (.rt (.dat .non) M) :=
  ST.mk (fun X hX => ps_retN) fun I H adr σ D s q => q .non I H adr ⟨s.ex, s.sto, rfl, fun i o ov h _ => by simp at h⟩ Grow.refl .non
theorem ST.ite {k : Bool} {ys ns : List Stmt} (hc : ET C c E M k M1) (h1 : k = true → SB C ys E M1 r) (h2 : k = false → SB C ns E M1 r) : ST C (.If c ys ns pos) E M r := by
  cases k with
  | true =>
    refine ST.mk (fun X hX => ps_if (ut hX c) (ub hX ys) pss_dead) fun I H adr σ D s q => ?_
    refine hc I H adr σ _ s fun I1 H1 adr1 s1 g1 => ?_
    show UB C ys D σ H1
    exact h1 rfl I1 H1 adr1 σ D s1 (q.mono g1)
  | false =>
    refine ST.mk (fun X hX => ps_if (ut hX c) pss_dead (ub hX ns)) fun I H adr σ D s q => ?_
    refine hc I H adr σ _ s fun I1 H1 adr1 s1 g1 => ?_
    show UB C ns D σ H1
    exact h2 rfl I1 H1 adr1 σ D s1 (q.mono g1)
theorem ST.yes {ys ns : List Stmt} (hc : ET C c E M true M1) (h1 : SB C ys E M1 r) : ST C (.If c ys ns pos) E M r := ST.ite hc (fun _ => h1) (fun z => nomatch z)
theorem ST.no {ys ns : List Stmt} (hc : ET C c E M false M1) (h1 : SB C ns E M1 r) : ST C (.If c ys ns pos) E M r := ST.ite hc (fun z => nomatch z) (fun _ => h1)
theorem ST.exp (h : EV C e E M o M') (hs : ∀ env, swapsWith e none pos.line env = pure false := by intro _; rfl) : ST C (.Expr e pos) E M (.nx E M') :=
  ST.mk (fun X hX => ps_expr (ue hX e) (hs X.env)) fun I H adr σ D s q => h I H adr σ _ s fun v I1 H1 adr1 s1 g1 v1 => q I1 H1 adr1 σ s1 g1
theorem ST.set (i : Nat) {x : Str} {p' : Pos} (h : EV C e E M o M') (nd : C.N.Nodup) (hi : C.N[i]? = some x := by rfl) (hx : Loc C.sc x := by first | exact Or.inl rfl | exact Or.inr rfl)
    (hs : ∀ env, swapsWith e (some (.Name x p')) pos.line env = pure false := by intro _; rfl) (hf : C.fn x = true ∨ C.sc.names.lookup x = some .local := by first | exact .inl rfl | exact .inr rfl) : ST C (.Assign [.Name x p'] e pos) E M (.nx (E.set i o) M') :=
  ST.mk (fun X hX => ps_set (by rw [hX.N]; exact nd) (by rw [hX.N]; exact hi) (by rw [hX.sc]; exact hx) (ue hX e) (hs X.env) (hf.elim (fun z => .inl (hX.fn x z)) (fun z => .inr (by rw [hX.sc]; exact z))))
    fun I H adr σ D s q => h I H adr σ _ s fun v I1 H1 adr1 s1 g1 v1 => q I1 H1 adr1 _ (s1.set v1) g1

end
end Ab
/-! Ab: defs and their calls. -/
namespace Ab
open PySem PySem.Spec PyProof.Rows L2
variable [TabCtx]

abbrev Rel := List O → Mem → O → Mem → Prop
def spR (R : Rel) : Sp := fun vs H Q _ => ∃ (I : Hp) (adr : List Addr) (os : List O) (M : Mem) (o : O) (M' : Mem), R os M o M' ∧ Ex I H ∧ Sto I H adr M ∧ Vs I adr os vs ∧
  ∀ v I' H' adr', Ex I' H' → Sto I' H' adr' M' → Grow I H adr I' H' adr' → Vo I' adr' o v → Q v H'
/-- the def named x keeps R -/
def FN (g : Pg) (x : Str) (k : Nat) (R : Rel) : Prop := ∃ (f : Addr) (fd : FuncData) (ps : List Str), FnOk g.P g.w g.K g.mg g.base CX0 k f fd ps (spR R) ∧ g.mg x = some (.ref f) ∧ PySem.W.keepIn g.K (.ref f) = true ∧ Binds g.K fd ps []
theorem FN.mono {g : Pg} {x : Str} {j k : Nat} {R : Rel} (F : FN g x j R) (h : j ≤ k) : FN g x k R := by
  obtain ⟨f, fd, ps, a, b⟩ := F
  exact ⟨f, fd, ps, a.mono h, b⟩
theorem FN.imp {g : Pg} {x : Str} {k : Nat} {R R' : Rel} (F : FN g x k R) (h : ∀ os M o M', R' os M o M' → R os M o M') : FN g x k R' := by
  obtain ⟨f, fd, ps, a, b⟩ := F
  refine ⟨f, fd, ps, a.imp fun vs H Q E z => ?_, b⟩
  obtain ⟨I, adr, os, M, o, M', r, q⟩ := z
  exact ⟨I, adr, os, M, o, M', h _ _ _ _ r, q⟩
def W0 : WX := fun _ _ _ _ => False
theorem takes0 {X : Cx} : L2.Takes X W0 := fun _ _ x => by
  obtain ⟨_, _, _, _, _, _, _, _, _, _, _, _, _, _, _, _, z⟩ := x
  exact z.elim
abbrev mkC (g : Pg) (N : List Str) (st : Stmt) (k : Nat) : Cc := ⟨g, N, defScope st, fun _ => true, k, W0, none⟩
def pad (N : List Str) (os : List O) : List O := os ++ List.replicate (N.length - os.length) .no
/-- what a def's text is, where it stands -/
structure TxtF (g : Pg) (x : Str) (st : Stmt) : Prop where
  fn : ∃ (f : Addr) (fd : FuncData), Fun g.K x x st f fd ∧ g.mg x = some (.ref f)
theorem FN.mk {g : Pg} {x : Str} {st : Stmt} {N ps : List Str} {k : Nat} {R : Rel} (T : TxtF g x st) (S : FnScope N ps (defScope st))
    (hb : ∀ (kV doc pm : Value) (an : Option Addr) (cdv ct : Value) (us : List Value), us.length = ps.length → bindArgs (PySem.W.fnOf x x (defArgs st) (defBody st) (defScope st) .none kV doc pm an cdv ct) ⟨us, []⟩ = pure (ps.zip us))
    (hl : ∀ os M o M', R os M o M' → os.length = ps.length) (body : ∀ os M o M', R os M o M' → SB (mkC g N st k) (defBody st) (pad N os) M (.rt o M')) : FN g x (k + 1) R := by
  obtain ⟨f, fd, F, hm⟩ := T.fn
  refine ⟨f, fd, ps, F.ok (N := N) S (fun vs H Q E h => ?_) (fun cdv A outer s H vs Q E hr h => ?_), hm, F.kp, F.binds hb⟩
  · obtain ⟨I, adr, os, M, o, M', r, _, _, v, _⟩ := h
    rw [← v.length]
    exact hl _ _ _ _ r
  · obtain ⟨I, adr, os, M, o, M', r, ex, sto, v, q⟩ := h
    refine ⟨UB (mkC g N st k) (defBody st), ub ⟨rfl, rfl, rfl, rfl, rfl, rfl, rfl, rfl, hr, PassesOwn.never, takes0, fun _ _ => rfl, fun _ _ z => (by cases z), ⟨_, _, rfl, S.gen, S.co, rfl, rfl⟩⟩ _, ?_⟩
    refine body os M o M' r I H adr (L2.start N vs) _ ⟨ex, sto, ?_, fun i p ov h1 h2 => ?_⟩ fun w I' H' adr' s' g' v' => q w I' H' adr' s'.ex s'.sto g' v'
    · unfold pad L2.start
      rw [List.length_append, List.length_append, List.length_map, List.length_replicate, List.length_replicate, v.length]
    · unfold pad at h1
      unfold L2.start at h2
      by_cases hi : i < os.length
      · rw [List.getElem?_append_left hi] at h1
        obtain ⟨w, e1, e2⟩ := v.get h1
        rw [List.getElem?_append_left (by rw [List.length_map, ← v.length]; exact hi), List.getElem?_map, e1] at h2
        cases h2
        exact e2
      · rw [List.getElem?_append_right (Nat.le_of_not_lt hi)] at h1
        have hp : p = .no := List.eq_of_mem_replicate (List.mem_of_getElem? h1)
        subst hp
        cases ov with
        | none => rfl
        | some w => exact True.intro

/-! ### calls -/
def O.ren (ρ : Nat → Nat) : O → O
  | .no => .no
  | .dat d => .dat d
  | .adr k => .adr (ρ k)
  | .scr a u => .scr a u
  | .obj C fs => .obj C (fs.map fun f => (f.1, ρ f.2))
theorem Vo.unren {I : Hp} {adr adr0 : List Addr} {ρ : Nat → Nat} (h : ∀ (k : Nat) (a : Addr), adr[ρ k]? = some a → adr0[k]? = some a) : ∀ {o : O} {v : V}, Vo I adr (o.ren ρ) v → Vo I adr0 o v
  | .no, _, _ => True.intro
  | .dat _, _, q => q
  | .adr _, _, q => by
    obtain ⟨a, h1, h2⟩ := q
    exact ⟨a, h _ a h1, h2⟩
  | .scr _ _, _, q => q
  | .obj _ _, _, q => by
    obtain ⟨p, dx, gs, h1, h2, h3⟩ := q
    exact ⟨p, dx, gs, h1, h2, prMap (prUn h3) fun f g' q => ⟨q.1, let ⟨a, e1, e2⟩ := q.2; ⟨a, h _ a e1, e2⟩⟩⟩
theorem Vo.doren {I : Hp} {adr adr0 : List Addr} {ρ : Nat → Nat} (h : ∀ (k : Nat) (a : Addr), adr0[k]? = some a → adr[ρ k]? = some a) : ∀ {o : O} {v : V}, Vo I adr0 o v → Vo I adr (o.ren ρ) v
  | .no, _, _ => True.intro
  | .dat _, _, q => q
  | .adr _, _, q => by
    obtain ⟨a, h1, h2⟩ := q
    exact ⟨a, h _ a h1, h2⟩
  | .scr _ _, _, q => q
  | .obj _ _, _, q => by
    obtain ⟨p, dx, gs, h1, h2, h3⟩ := q
    exact ⟨p, dx, gs, h1, h2, prDo (prMap h3 fun f g' q => ⟨q.1, let ⟨a, e1, e2⟩ := q.2; ⟨a, h _ a e1, e2⟩⟩)⟩
theorem Vs.unren {I : Hp} {adr adr0 : List Addr} {ρ : Nat → Nat} (h : ∀ (k : Nat) (a : Addr), adr[ρ k]? = some a → adr0[k]? = some a) : ∀ {os : List O} {vs : List V}, Vs I adr (os.map (·.ren ρ)) vs → Vs I adr0 os vs
  | [], _, .nil => .nil
  | _ :: _, _, .cons q r => .cons (q.unren h) (Vs.unren h r)
theorem Vs.doren {I : Hp} {adr adr0 : List Addr} {ρ : Nat → Nat} (h : ∀ (k : Nat) (a : Addr), adr0[k]? = some a → adr[ρ k]? = some a) : ∀ {os : List O} {vs : List V}, Vs I adr0 os vs → Vs I adr (os.map (·.ren ρ)) vs
  | _, _, .nil => .nil
  | _, _, .cons q r => .cons (q.doren h) (Vs.doren h r)

/-- where the callee's cells lie: the lent ones at ι, new ones behind the caller's -/
def rho (ι : List Nat) (n : Nat) (k : Nat) : Nat := match ι[k]? with
  | some j => j
  | none => n + (k - ι.length)
/-- the caller's cells behind a call -/
structure Mix (ι : List Nat) (M1 M0 M0' M2 : Mem) : Prop where
  low : ι.length = M0.length
  nd : ι.Nodup
  len : M2.length = M1.length + (M0'.length - ι.length)
  lent : ∀ (i k : Nat), ι[i]? = some k → M1[k]? = (M0[i]?).map fun c => c.map fun os => os.map (·.ren (rho ι M1.length))
  back : ∀ (k : Nat) (os : List O), M2[k]? = some (some os) → (k ∉ ι ∧ M1[k]? = some (some os)) ∨ ∃ (i : Nat) (ps : List O), rho ι M1.length i = k ∧ (i < ι.length ∨ ι.length ≤ i) ∧ M0'[i]? = some (some ps) ∧ os = ps.map (·.ren (rho ι M1.length))

theorem call_mix {I1 H1 : Hp} {adr1 : List Addr} {σ : L2.St} {E : List O} {M1 M2 M0 M0' : Mem} {ι : List Nat} (s1 : Stt I1 H1 adr1 σ E M1) (mx : Mix ι M1 M0 M0' M2) :
    ∃ adr0 : List Addr, Sto I1 H1 adr0 M0 ∧ (∀ (os : List O) (vs : List V), Vs I1 adr1 (os.map (·.ren (rho ι M1.length))) vs → Vs I1 adr0 os vs) ∧
      ∀ (I2 H2 : Hp) (adr0' : List Addr), Ex I2 H2 → Sto I2 H2 adr0' M0' → Grow I1 H1 adr0 I2 H2 adr0' → ∃ adr2, Stt I2 H2 adr2 σ E M2 ∧ Grow I1 H1 adr1 I2 H2 adr2 ∧ ∀ (o : O) (v : V), Vo I2 adr0' o v → Vo I2 adr2 (o.ren (rho ι M1.length)) v := by
  have hin : ∀ (i k : Nat), ι[i]? = some k → k < M1.length := fun i k h => by
    have h2 := mx.lent i k h
    have hi : i < M0.length := by
      rw [← mx.low]
      exact (List.getElem?_eq_some_iff.mp h).1
    rw [List.getElem?_eq_getElem hi] at h2
    exact (List.getElem?_eq_some_iff.mp h2).1
  have hlen1 := s1.sto.len
  -- the callee's addresses
  let adr0 : List Addr := ι.map fun k => adr1.getD k 0
  have a0len : adr0.length = ι.length := List.length_map _
  have a0 : ∀ (i : Nat) (a : Addr), adr0[i]? = some a → ∃ k, ι[i]? = some k ∧ adr1[k]? = some a := fun i a h => by
    rw [List.getElem?_map] at h
    cases hk : ι[i]? with
    | none => rw [hk] at h; cases h
    | some k =>
      rw [hk] at h
      have hlt : k < adr1.length := by rw [hlen1]; exact hin i k hk
      refine ⟨k, rfl, ?_⟩
      rw [List.getElem?_eq_getElem hlt]
      have : adr1.getD k 0 = a := Option.some.inj h
      rw [List.getD_eq_getElem?_getD, List.getElem?_eq_getElem hlt] at this
      exact congrArg some this
  have a0' : ∀ (i k : Nat) (a : Addr), ι[i]? = some k → adr1[k]? = some a → adr0[i]? = some a := fun i k a h1 h2 => by
    rw [List.getElem?_map, h1]
    show some (adr1.getD k 0) = some a
    rw [List.getD_eq_getElem?_getD, h2]
    rfl
  have un0 : ∀ (k : Nat) (a : Addr), adr1[rho ι M1.length k]? = some a → adr0[k]? = some a := fun k a h => by
    unfold rho at h
    cases hk : ι[k]? with
    | some j =>
      rw [hk] at h
      exact a0' k j a hk h
    | none =>
      rw [hk] at h
      have := (List.getElem?_eq_some_iff.mp h).1
      simp only at this
      omega
  have sto0 : Sto I1 H1 adr0 M0 := by
    refine ⟨by rw [a0len]; exact mx.low, ?_, fun i a ps h1 h2 => ?_, fun i a h => ?_, s1.sto.amb⟩
    · refine List.pairwise_map.mpr (List.Pairwise.imp_of_mem (fun {a b} ha hb hab e => ?_) mx.nd)
      obtain ⟨i, hi⟩ := List.getElem?_of_mem ha
      obtain ⟨j, hj⟩ := List.getElem?_of_mem hb
      have l1 : a < adr1.length := by rw [hlen1]; exact hin i a hi
      have l2 : b < adr1.length := by rw [hlen1]; exact hin j b hj
      have e1 : adr1[a]? = adr1[b]? := by
        rw [List.getD_eq_getElem?_getD, List.getD_eq_getElem?_getD, List.getElem?_eq_getElem l1, List.getElem?_eq_getElem l2] at e
        rw [List.getElem?_eq_getElem l1, List.getElem?_eq_getElem l2]
        exact congrArg some e
      exact hab ((List.getElem?_inj l1 s1.sto.nd).mp e1)
    · obtain ⟨k, hk, ha1⟩ := a0 i a h1
      have hm := mx.lent i k hk
      rw [h2] at hm
      obtain ⟨c1, xs, c2, c3⟩ := s1.sto.cell k a _ ha1 hm
      exact ⟨c1, xs, c2, c3.unren un0⟩
    · obtain ⟨k, hk, ha1⟩ := a0 i a h
      exact s1.sto.dom k a ha1
  refine ⟨adr0, sto0, fun os vs v => v.unren un0, fun I2 H2 adr0' ex2 sto2 g2 => ?_⟩
  obtain ⟨nw, rfl, fr⟩ := g2.new
  have nwlen : nw.length = M0'.length - ι.length := by
    have := sto2.len
    rw [List.length_append, a0len] at this
    omega
  have m0len : ι.length ≤ M0'.length := by
    have := sto2.len
    rw [List.length_append, a0len] at this
    omega
  have do2 : ∀ (k : Nat) (a : Addr), (adr0 ++ nw)[k]? = some a → (adr1 ++ nw)[rho ι M1.length k]? = some a := fun k a h => by
    unfold rho
    by_cases hk : k < adr0.length
    · rw [List.getElem?_append_left hk] at h
      obtain ⟨j, p1, p2⟩ := a0 k a h
      rw [p1]
      show (adr1 ++ nw)[j]? = some a
      rw [List.getElem?_append_left (List.getElem?_eq_some_iff.mp p2).1]
      exact p2
    · rw [List.getElem?_append_right (Nat.le_of_not_lt hk)] at h
      rw [show ι[k]? = none from List.getElem?_eq_none (by rw [← a0len]; exact Nat.le_of_not_lt hk)]
      show (adr1 ++ nw)[M1.length + (k - ι.length)]? = some a
      rw [List.getElem?_append_right (by omega), ← a0len, hlen1]
      rw [show M1.length + (k - adr0.length) - M1.length = k - adr0.length by omega]
      exact h
  have nin0 : ∀ p, p ∉ adr1 → p ∉ adr0 := fun p h z => by
    obtain ⟨i, hi⟩ := List.getElem?_of_mem z
    obtain ⟨k, _, hk⟩ := a0 i p hi
    exact h (List.mem_of_getElem? hk)
  have g3 : Grow I1 H1 adr1 I2 H2 (adr1 ++ nw) := ⟨g2.ex, ⟨nw, rfl, fr⟩, fun p u h n hp => g2.keep p u h n (nin0 p hp), g2.dom, fun p u h n h2 hp => g2.out p u h n h2 (nin0 p hp), g2.code⟩
  have notin : ∀ (k : Nat) (a : Addr), k ∉ ι → adr1[k]? = some a → a ∉ adr0 := fun k a hk h z => by
    obtain ⟨i, hi⟩ := List.getElem?_of_mem z
    obtain ⟨j, h1, h2⟩ := a0 i a hi
    have : j = k := (List.getElem?_inj (List.getElem?_eq_some_iff.mp h2).1 s1.sto.nd).mp (h2.trans h.symm)
    subst this
    exact hk (List.mem_of_getElem? h1)
  have sto3 : Sto I2 H2 (adr1 ++ nw) M2 := by
    refine ⟨by rw [List.length_append, mx.len, hlen1, nwlen], ?_, fun k a ps h1 h2 => ?_, fun k a h => ?_, sto2.amb⟩
    · rw [List.nodup_append]
      refine ⟨s1.sto.nd, (List.nodup_append.mp sto2.nd).2.1, fun a ha b hb e => ?_⟩
      subst e
      obtain ⟨k, hk⟩ := List.getElem?_of_mem ha
      obtain ⟨u, hu, n⟩ := s1.sto.dom k a hk
      exact fr a hb u hu n
    · rcases mx.back k ps h2 with ⟨hk, hm⟩ | ⟨i, ps', hi, _, hm, rfl⟩
      · have hlt : k < adr1.length := by
          rw [hlen1]
          exact (List.getElem?_eq_some_iff.mp hm).1
        rw [List.getElem?_append_left hlt] at h1
        obtain ⟨c1, xs, c2, c3⟩ := s1.sto.cell k a ps h1 hm
        have na := notin k a hk h1
        exact ⟨g2.out a _ c2 NT.lst c1 na, xs, g2.keep a _ c2 NT.lst na, (c3.ext g2.ex).more⟩
      · have hi2 : i < (adr0 ++ nw).length := by
          rw [sto2.len]
          exact (List.getElem?_eq_some_iff.mp hm).1
        have e1 : (adr0 ++ nw)[i]? = some (adr0 ++ nw)[i] := List.getElem?_eq_getElem hi2
        have e2 := do2 i _ e1
        rw [hi, h1] at e2
        have e3 : a = (adr0 ++ nw)[i] := Option.some.inj e2
        obtain ⟨c1, xs, c2, c3⟩ := sto2.cell i _ ps' e1 hm
        exact ⟨by rw [e3]; exact c1, xs, by rw [e3]; exact c2, c3.doren do2⟩
    · by_cases hk : k < adr1.length
      · rw [List.getElem?_append_left hk] at h
        obtain ⟨u, hu, n⟩ := s1.sto.dom k a h
        exact g2.dom a u hu n
      · rw [List.getElem?_append_right (Nat.le_of_not_lt hk)] at h
        refine sto2.dom (ι.length + (k - adr1.length)) a ?_
        rw [List.getElem?_append_right (by rw [a0len]; omega), a0len]
        rw [show ι.length + (k - adr1.length) - ι.length = k - adr1.length by omega]
        exact h
  exact ⟨adr1 ++ nw, s1.mono g3 ex2 sto3, g3, fun o v h => h.doren do2⟩
theorem ev_call {R : Rel} {E : List O} {M M1 M2 M0 M0' : Mem} {os os0 : List O} {o0 : O} {ta : TA} {E' : XK} {ι : List Nat} (ha : Ea ta E M os M1) (hR : R os0 M0 o0 M0') (ho : os = os0.map (·.ren (rho ι M1.length))) (mx : Mix ι M1 M0 M0' M2) :
    Ev (tCall (spR R) [] E' ta) E M (o0.ren (rho ι M1.length)) M2 := fun I H adr σ Q s q => ha I H adr σ _ s fun vs I1 H1 adr1 s1 g1 v1 => by
  subst ho
  obtain ⟨adr0, sto0, vs0, back⟩ := call_mix s1 mx
  show spR R (vs ++ []) H1 Q E'
  rw [List.append_nil]
  refine ⟨I1, adr0, os0, M0, o0, M0', hR, s1.ex, sto0, vs0 _ _ v1, fun z I2 H2 adr0' ex2 sto2 g2 v2 => ?_⟩
  obtain ⟨adr2, s2, g3, dr⟩ := back I2 H2 adr0' ex2 sto2 g2
  exact q z I2 H2 adr2 s2 (g1.trans g3) (dr _ _ v2)
end Ab
/-! Ab: operators, subscripts, built-ins. -/
namespace Ab
open PySem PySem.Spec PyProof.Rows L2
variable [TabCtx]

/-- which built-in names the program's top leaves alone -/
def Bt (g : Pg) (x : Str) : Prop := g.mg x = none

def BS (C : Cc) (op : Operator) (o1 o2 : O) (M : Mem) (o : O) (M' : Mem) : Prop := ∃ r, (∀ X, CxIs C X → OpR X (binaryOp op) r) ∧ RO r o1 o2 M o M'
def CS (C : Cc) (op : CmpOp) (o1 o2 : O) (M : Mem) (o : O) (M' : Mem) : Prop := ∃ r, (∀ X, CxIs C X → OpR X (compareOp op) r) ∧ RO r o1 o2 M o M'
section
variable {C : Cc} {E : List O} {M M1 M2 M3 M' : Mem} {o o1 o2 o3 : O} {os : List O} {e a b c : Expr} {pos pos' p : Pos} {d d1 d2 : D} {i j : Int} {op : Operator} {cop cop' : CmpOp} {k k' : Bool}
theorem EV.bin (ha : EV C a E M o1 M1) (hb : EV C b E M1 o2 M2) (h : BS C op o1 o2 M2 o M') : EV C (.BinOp a op b pos) E M o M' := let ⟨_, h1, h2⟩ := h; EV.op ha hb h1 h2
theorem EV.cm (ha : EV C a E M o1 M1) (hb : EV C b E M1 o2 M2) (h : CS C cop o1 o2 M2 o M') (hm : behindInMarks cop b = false := by first | exact nomark _ | with_unfolding_all rfl) : EV C (.Compare a [cop] [b] pos) E M o M' := let ⟨_, h1, h2⟩ := h; EV.cmp ha hb h1 h2 hm
theorem ET.cm (ha : EV C a E M o1 M1) (hb : EV C b E M1 o2 M2) (h : CS C cop o1 o2 M2 (.dat (.bl k)) M') (hm : behindInMarks cop b = false := by first | exact nomark _ | with_unfolding_all rfl) : ET C (.Compare a [cop] [b] pos) E M k M' := let ⟨_, h1, h2⟩ := h; ET.cmp ha hb h1 h2 hm
/-- a op b op' c -/
theorem EV.chain {M4 : Mem} (ha : EV C a E M o1 M1) (hb : EV C b E M1 o2 M2) (h : CS C cop o1 o2 M2 (.dat (.bl k)) M2) (hc : k = true → EV C c E M2 o3 M3) (h' : k = true → CS C cop' o2 o3 M3 (.dat (.bl k')) M3) (h0 : k = false → M3 = M2)
    (hm : lastMarks [cop, cop'] [b, c] = false := by with_unfolding_all rfl) : EV C (.Compare a [cop, cop'] [b, c] pos) E M (.dat (.bl (k && k'))) M3 := by
  obtain ⟨r, r1, r2⟩ := h
  cases k with
  | true =>
    obtain ⟨r', r1', r2'⟩ := h' rfl
    refine EV.mk (fun X hX => pe_chain (r1 X hX) (r1' X hX) (ue hX a) (ue hX b) (ue hX c) hm) fun I H adr σ Q s q => ?_
    refine ha I H adr σ _ s fun v I1 H1 adr1 s1 g1 v1 => hb I1 H1 adr1 σ _ s1 fun w I2 H2 adr2 s2 g2 w2 => ?_
    refine r2 I2 H2 adr2 σ E v w _ s2 (v1.mono g2) w2 fun z I3 H3 adr3 s3 g3 z3 => ?_
    cases (show Rep I3 (.bl true) z from z3)
    refine ⟨true, rfl, ?_⟩
    show UE C c σ H3 _
    exact hc rfl I3 H3 adr3 σ _ s3 fun w' I4 H4 adr4 s4 g4 w4 => r2' I4 H4 adr4 σ E w w' Q s4 ((w2.mono g3).mono g4) w4 fun y I5 H5 adr5 s5 g5 y5 => q y I5 H5 adr5 s5 ((((g1.trans g2).trans g3).trans g4).trans g5) y5
  | false =>
    have e := h0 rfl
    subst e
    refine EV.mk (fun X hX => pe_chain (r' := fun _ _ _ _ => False) (r1 X hX) (fun _ _ _ _ _ _ _ _ _ _ _ _ h => h.elim) (ue hX a) (ue hX b) (ue hX c) hm) fun I H adr σ Q s q => ?_
    refine ha I H adr σ _ s fun v I1 H1 adr1 s1 g1 v1 => hb I1 H1 adr1 σ _ s1 fun w I2 H2 adr2 s2 g2 w2 => ?_
    refine r2 I2 H2 adr2 σ E v w _ s2 (v1.mono g2) w2 fun z I3 H3 adr3 s3 g3 z3 => ?_
    cases (show Rep I3 (.bl false) z from z3)
    refine ⟨false, rfl, ?_⟩
    show Q (.bl false) H3
    exact q _ I3 H3 adr3 s3 ((g1.trans g2).trans g3) (.bl false)
theorem ET.chain (ha : EV C a E M o1 M1) (hb : EV C b E M1 o2 M2) (h : CS C cop o1 o2 M2 (.dat (.bl k)) M2) (hc : k = true → EV C c E M2 o3 M3) (h' : k = true → CS C cop' o2 o3 M3 (.dat (.bl k')) M3) (h0 : k = false → M3 = M2)
    (hm : lastMarks [cop, cop'] [b, c] = false := by with_unfolding_all rfl) : ET C (.Compare a [cop, cop'] [b, c] pos) E M (k && k') M3 := by
  obtain ⟨r, r1, r2⟩ := h
  cases k with
  | true =>
    obtain ⟨r', r1', r2'⟩ := h' rfl
    refine ET.mk (fun X hX => pt_chain (r1 X hX) (r1' X hX) (ue hX a) (ue hX b) (ue hX c) hm) fun I H adr σ Q s q => ?_
    refine ha I H adr σ _ s fun v I1 H1 adr1 s1 g1 v1 => hb I1 H1 adr1 σ _ s1 fun w I2 H2 adr2 s2 g2 w2 => ?_
    refine r2 I2 H2 adr2 σ E v w _ s2 (v1.mono g2) w2 fun z I3 H3 adr3 s3 g3 z3 => ?_
    cases (show Rep I3 (.bl true) z from z3)
    refine ⟨true, rfl, ?_⟩
    show UE C c σ H3 _
    exact hc rfl I3 H3 adr3 σ _ s3 fun w' I4 H4 adr4 s4 g4 w4 => r2' I4 H4 adr4 σ E w w' _ s4 ((w2.mono g3).mono g4) w4 fun y I5 H5 adr5 s5 g5 y5 => by
      cases (show Rep I5 (.bl k') y from y5)
      exact ⟨k', rfl, q I5 H5 adr5 s5 ((((g1.trans g2).trans g3).trans g4).trans g5)⟩
  | false =>
    have e := h0 rfl
    subst e
    refine ET.mk (fun X hX => pt_chain (r' := fun _ _ _ _ => False) (r1 X hX) (fun _ _ _ _ _ _ _ _ _ _ _ _ h => h.elim) (ue hX a) (ue hX b) (ue hX c) hm) fun I H adr σ Q s q => ?_
    refine ha I H adr σ _ s fun v I1 H1 adr1 s1 g1 v1 => hb I1 H1 adr1 σ _ s1 fun w I2 H2 adr2 s2 g2 w2 => ?_
    refine r2 I2 H2 adr2 σ E v w _ s2 (v1.mono g2) w2 fun z I3 H3 adr3 s3 g3 z3 => ?_
    cases (show Rep I3 (.bl false) z from z3)
    refine ⟨false, rfl, ?_⟩
    show ∃ k, V.bl false = V.bl k ∧ Q k H3
    exact ⟨false, rfl, q I3 H3 adr3 s3 ((g1.trans g2).trans g3)⟩

/-! #### ints -/
theorem ro_I0 {g : Int → Int → V} (h : ∀ I, Rep I d (g i j)) : RO (rI0 g) (.dat (.int i)) (.dat (.int j)) M (.dat d) M := fun I H adr σ E v w Q s hv hw q => by
  cases (show Rep I (.int i) v from hv)
  cases (show Rep I (.int j) w from hw)
  exact ⟨i, j, rfl, rfl, q _ I H adr s Grow.refl (h I)⟩
theorem ro_I {g : Int → Int → V} {Cd : Int → Int → Prop} (hc : Cd i j) (h : ∀ I, Rep I d (g i j)) : RO (rI Cd g) (.dat (.int i)) (.dat (.int j)) M (.dat d) M := fun I H adr σ E v w Q s hv hw q => by
  cases (show Rep I (.int i) v from hv)
  cases (show Rep I (.int j) w from hw)
  exact ⟨i, j, rfl, rfl, hc, q _ I H adr s Grow.refl (h I)⟩
theorem op_mulX {X : Cx} : OpR X (binaryOp .Mult) (rI IntMulOk fun i j => .int (i * j)) := opI fun _ _ _ _ _ _ _ hc q => mul_int q hc
theorem BS.addI : BS C .Add (.dat (.int i)) (.dat (.int j)) M (.dat (.int (i + j))) M := ⟨_, fun X _ => op_add, ro_I0 fun _ => .int _⟩
theorem BS.subI : BS C .Sub (.dat (.int i)) (.dat (.int j)) M (.dat (.int (i - j))) M := ⟨_, fun X _ => op_sub, ro_I0 fun _ => .int _⟩
theorem BS.mulI (h : IntMulOk i j) : BS C .Mult (.dat (.int i)) (.dat (.int j)) M (.dat (.int (i * j))) M := ⟨_, fun X _ => op_mulX, ro_I h fun _ => .int _⟩
theorem BS.modI (h : 0 < j) : BS C .Mod (.dat (.int i)) (.dat (.int j)) M (.dat (.int (i % j))) M := ⟨_, fun X _ => op_mod, ro_I h fun _ => .int _⟩
theorem BS.divI (h : CDivW i j) : BS C .FloorDiv (.dat (.int i)) (.dat (.int j)) M (.dat (.int (i / j))) M := ⟨_, fun X _ => op_fdivW, ro_I h fun _ => .int _⟩
theorem BS.powI (h : CPow i j) : BS C .Pow (.dat (.int i)) (.dat (.int j)) M (.dat (.int (i ^ j.toNat))) M := ⟨_, fun X _ => op_pow, ro_I h fun _ => .int _⟩
theorem CS.ltI : CS C .Lt (.dat (.int i)) (.dat (.int j)) M (.dat (.bl (decide (i < j)))) M := ⟨_, fun X _ => op_lt, ro_I0 fun _ => .bl _⟩
theorem CS.leI : CS C .LtE (.dat (.int i)) (.dat (.int j)) M (.dat (.bl (decide (i ≤ j)))) M := ⟨_, fun X _ => op_le, ro_I0 fun _ => .bl _⟩
theorem CS.gtI : CS C .Gt (.dat (.int i)) (.dat (.int j)) M (.dat (.bl (decide (j < i)))) M := ⟨_, fun X _ => op_gt, ro_I0 fun _ => .bl _⟩
theorem CS.geI : CS C .GtE (.dat (.int i)) (.dat (.int j)) M (.dat (.bl (decide (j ≤ i)))) M := ⟨_, fun X _ => op_ge, ro_I0 fun _ => .bl _⟩
theorem EV.neg (h : EV C a E M (.dat (.int i)) M') : EV C (.UnaryOp .USub a pos) E M (.dat (.int (-i))) M' :=
  EV.mk (fun X hX => pe_un un_neg (ue hX a)) fun I H adr σ Q s q => h I H adr σ _ s fun v I1 H1 adr1 s1 g1 v1 => by
    cases (show Rep I1 (.int i) v from v1)
    exact ⟨i, rfl, q _ I1 H1 adr1 s1 g1 (.int _)⟩
/-! #### equality of scalars -/
theorem ro_eq {x y : V} {kk : Bool} (hx : ∀ I v, Rep I d1 v → v = x) (hy : ∀ I v, Rep I d2 v → v = y) (hs : scal x y = true) (hk : decide (x = y) = kk) : RO rEq (.dat d1) (.dat d2) M (.dat (.bl kk)) M := fun I H adr σ E v w Q s hv hw q => by
  cases hx I v hv
  cases hy I w hw
  exact ⟨hs, q _ I H adr s Grow.refl (by rw [hk]; exact .bl _)⟩
theorem ro_ne {x y : V} {kk : Bool} (hx : ∀ I v, Rep I d1 v → v = x) (hy : ∀ I v, Rep I d2 v → v = y) (hs : scal x y = true) (hk : (!decide (x = y)) = kk) : RO rNe (.dat d1) (.dat d2) M (.dat (.bl kk)) M := fun I H adr σ E v w Q s hv hw q => by
  cases hx I v hv
  cases hy I w hw
  exact ⟨hs, q _ I H adr s Grow.refl (by rw [hk]; exact .bl _)⟩
theorem rep_int {I : Hp} {v : V} (h : Rep I (.int i) v) : v = .int i := by cases h; rfl
theorem rep_bl {I : Hp} {v : V} (h : Rep I (.bl k) v) : v = .bl k := by cases h; rfl
theorem rep_str {I : Hp} {v : V} {x : Str} (h : Rep I (.str x) v) : v = .str x := by cases h; rfl
theorem rep_non {I : Hp} {v : V} (h : Rep I .non v) : v = .non := by cases h; rfl
theorem dec_i : decide (V.int i = V.int j) = decide (i = j) := by
  rw [Bool.eq_iff_iff]
  simp
theorem dec_b : decide (V.bl k = V.bl k') = decide (k = k') := by
  rw [Bool.eq_iff_iff]
  simp
theorem dec_s {x y : Str} : decide (V.str x = V.str y) = decide (x = y) := by
  rw [Bool.eq_iff_iff]
  simp
theorem CS.eqI : CS C .Eq (.dat (.int i)) (.dat (.int j)) M (.dat (.bl (decide (i = j)))) M := ⟨_, fun X _ => op_eq, ro_eq (fun _ _ => rep_int) (fun _ _ => rep_int) rfl dec_i⟩
theorem CS.neI : CS C .NotEq (.dat (.int i)) (.dat (.int j)) M (.dat (.bl (!decide (i = j)))) M := ⟨_, fun X _ => op_ne, ro_ne (fun _ _ => rep_int) (fun _ _ => rep_int) rfl (by rw [dec_i])⟩
theorem CS.eqB : CS C .Eq (.dat (.bl k)) (.dat (.bl k')) M (.dat (.bl (decide (k = k')))) M := ⟨_, fun X _ => op_eq, ro_eq (fun _ _ => rep_bl) (fun _ _ => rep_bl) rfl dec_b⟩
theorem CS.eqS {x y : Str} : CS C .Eq (.dat (.str x)) (.dat (.str y)) M (.dat (.bl (decide (x = y)))) M := ⟨_, fun X _ => op_eq, ro_eq (fun _ _ => rep_str) (fun _ _ => rep_str) rfl dec_s⟩
theorem CS.neS {x y : Str} : CS C .NotEq (.dat (.str x)) (.dat (.str y)) M (.dat (.bl (!decide (x = y)))) M := ⟨_, fun X _ => op_ne, ro_ne (fun _ _ => rep_str) (fun _ _ => rep_str) rfl (by rw [dec_s])⟩
/-! #### is None -/
def D.isN : D → Bool
  | .non => true
  | _ => false
theorem rep_isN {I : Hp} {v : V} (h : Rep I d v) : decide (v = .non) = d.isN := by
  cases h <;> rfl
theorem EV.isN {jj : Nat} (h : EV C a E M (.dat d) M') : EV C (.Compare a [.Is] [.Constant .none jj p] pos) E M (.dat (.bl d.isN)) M' :=
  EV.mk (fun X hX => pe_cmp (pc_isN (ue hX a))) fun I H adr σ Q s q => h I H adr σ _ s fun v I1 H1 adr1 s1 g1 v1 => q _ I1 H1 adr1 s1 g1 (by rw [rep_isN v1]; exact .bl _)
theorem EV.notN {jj : Nat} (h : EV C a E M (.dat d) M') : EV C (.Compare a [.IsNot] [.Constant .none jj p] pos) E M (.dat (.bl (!d.isN))) M' :=
  EV.mk (fun X hX => pe_cmp (pc_notN (ue hX a))) fun I H adr σ Q s q => h I H adr σ _ s fun v I1 H1 adr1 s1 g1 v1 => q _ I1 H1 adr1 s1 g1 (by rw [rep_isN v1]; exact .bl _)
theorem ET.isN {jj : Nat} (h : EV C a E M (.dat d) M') : ET C (.Compare a [.Is] [.Constant .none jj p] pos) E M d.isN M' :=
  ET.mk (fun X hX => pt_cmp (pc_isN (ue hX a))) fun I H adr σ Q s q => h I H adr σ _ s fun v I1 H1 adr1 s1 g1 v1 => ⟨_, rfl, by rw [rep_isN v1]; exact q I1 H1 adr1 s1 g1⟩
theorem ET.notN {jj : Nat} (h : EV C a E M (.dat d) M') : ET C (.Compare a [.IsNot] [.Constant .none jj p] pos) E M (!d.isN) M' :=
  ET.mk (fun X hX => pt_cmp (pc_notN (ue hX a))) fun I H adr σ Q s q => h I H adr σ _ s fun v I1 H1 adr1 s1 g1 v1 => ⟨_, rfl, by rw [rep_isN v1]; exact q I1 H1 adr1 s1 g1⟩

/-! #### texts, tuples, lists joined -/
theorem BS.addS {x y : Str} (h : x.length + y.length ≤ sizeLine) : BS C .Add (.dat (.str x)) (.dat (.str y)) M (.dat (.str (x ++ y))) M := ⟨_, fun X _ => op_add_str, fun I H adr σ E v w Q s hv hw q => by
  cases rep_str hv
  cases rep_str hw
  exact ⟨x, y, rfl, rfl, h, q _ I H adr s Grow.refl (.str _)⟩⟩
theorem BS.addT {ds es : List D} (h : ds.length + es.length ≤ 100000) : BS C .Add (.dat (.tup ds)) (.dat (.tup es)) M (.dat (.tup (ds ++ es))) M := ⟨rCatA C.g.K, fun X hX => by
  have := op_catA (X := X)
  rw [hX.K] at this
  exact this, fun I H adr σ E v w Q s hv hw q => by
  cases (show Rep I (.tup ds) v from hv) with
  | @tup a xs _ ha hr =>
    cases (show Rep I (.tup es) w from hw) with
    | @tup b ys _ hb hs =>
      have l1 := hr.length
      have l2 := hs.length
      refine ⟨a, b, xs, ys, rfl, rfl, .inl (.inl (s.ex _ _ ha)), .inl (.inl (s.ex _ _ hb)), by rw [← l1, ← l2]; exact sz_of h, fun e => ?_, fun _ e => ?_, fun _ _ p hp => ?_⟩
      · subst e
        cases hr
        exact q _ I H adr s Grow.refl hw
      · subst e
        cases hs
        rw [List.append_nil] at q
        exact q _ I H adr s Grow.refl hv
      · obtain ⟨s2, g2, r2⟩ := s.tup hp (hr.append hs)
        exact q _ _ _ _ s2 g2 r2⟩
theorem BS.addL {ds es : List D} (h : ds.length + es.length ≤ 100000) : BS C .Add (.dat (.lst ds)) (.dat (.lst es)) M (.dat (.lst (ds ++ es))) M := ⟨rCat, fun X hX => op_cat, fun I H adr σ E v w Q s hv hw q => by
  cases (show Rep I (.lst ds) v from hv) with
  | @lst a xs _ ha hr =>
    cases (show Rep I (.lst es) w from hw) with
    | @lst b ys _ hb hs =>
      have l1 := hr.length
      have l2 := hs.length
      refine ⟨a, b, xs, ys, rfl, rfl, s.ex _ _ ha, s.ex _ _ hb, by rw [← l1, ← l2]; exact sz_of h, fun p hp => ?_⟩
      obtain ⟨s2, g2, r2⟩ := s.lst hp (hr.append hs)
      exact q _ _ _ _ s2 g2 r2⟩
theorem BS.mulT {ds : List D} (h0 : ds ≠ []) (h1 : 2 ≤ i) (h2 : i ≤ 1000) (h3 : ds.length ≤ 1000) : BS C .Mult (.dat (.tup ds)) (.dat (.int i)) M (.dat (.tup (List.replicate i.toNat ds).flatten)) M := ⟨rRepT C.g.K, fun X hX => by
  have := op_repT (X := X)
  rw [hX.K] at this
  exact this, fun I H adr σ E v w Q s hv hw q => by
  cases rep_int hw
  cases (show Rep I (.tup ds) v from hv) with
  | @tup a xs _ ha hr =>
    have l1 := hr.length
    refine ⟨a, i, xs, rfl, rfl, .inl (.inl (s.ex _ _ ha)), fun e => ?_, h1, h2, by rw [← l1]; exact h3, fun p hp => ?_⟩
    · subst e
      cases hr
      exact h0 rfl
    · obtain ⟨s2, g2, r2⟩ := s.tup hp (hr.rep i.toNat)
      exact q _ _ _ _ s2 g2 r2⟩
theorem BS.mulL {ds : List D} (h0 : 0 ≤ i) (h2 : i ≤ 1000) (h3 : ds.length ≤ 100) : BS C .Mult (.dat (.lst ds)) (.dat (.int i)) M (.dat (.lst (List.replicate i.toNat ds).flatten)) M := ⟨rRep, fun X hX => op_rep, fun I H adr σ E v w Q s hv hw q => by
  cases rep_int hw
  cases (show Rep I (.lst ds) v from hv) with
  | @lst a xs _ ha hr =>
    have l1 := hr.length
    refine ⟨a, i, xs, rfl, rfl, s.ex _ _ ha, by omega, by omega, ?_, fun p hp => ?_⟩
    · have : xs.length * i.toNat ≤ 100 * 1000 := Nat.mul_le_mul (by omega) (by omega)
      exact sz_of (by omega)
    · obtain ⟨s2, g2, r2⟩ := s.lst hp (hr.rep i.toNat)
      exact q _ _ _ _ s2 g2 r2⟩

/-! #### subscripts -/
def ixD : D → Int → Option D
  | .tup ds, i => atI ds i
  | .lst ds, i => atI ds i
  | _, _ => none
theorem reps_atI {I : Hp} {ds : List D} {xs : List V} (r : Reps I ds xs) {i : Int} {d : D} (h : atI ds i = some d) : ∃ v, atI xs i = some v ∧ Rep I d v := by
  unfold atI at h ⊢
  rw [← r.length]
  cases q : ixN ds.length i with
  | none => rw [q] at h; cases h
  | some j =>
    rw [q] at h
    exact r.get h
theorem vs_atI {I : Hp} {adr : List Addr} {ps : List O} {xs : List V} (r : Vs I adr ps xs) {i : Int} {o : O} (h : atI ps i = some o) : ∃ v, atI xs i = some v ∧ Vo I adr o v := by
  unfold atI at h ⊢
  rw [← r.length]
  cases q : ixN ps.length i with
  | none => rw [q] at h; cases h
  | some j =>
    rw [q] at h
    exact r.get h
theorem EV.ix (ha : EV C a E M (.dat d1) M1) (hb : EV C b E M1 (.dat (.int i)) M') (h : ixD d1 i = some d) (hs : PlainIx b := by exact fun _ _ => rfl) : EV C (.Subscript a b pos) E M (.dat d) M' :=
  EV.mk (t := tOp (rIx C.g.K) (UE C a) (UE C b)) (fun X hX => by
    have := pe_ix (pos := pos) ix_seq (ue hX a) (ue hX b) hs
    rw [hX.K] at this
    exact this) (ev_op ha hb fun I H adr σ E v w Q s hv hw q => by
      cases rep_int hw
      cases (show Rep I d1 v from hv) with
      | @tup p xs ds hp hr =>
        obtain ⟨x, e1, e2⟩ := reps_atI hr h
        exact .inr (.inl ⟨p, xs, i, x, rfl, rfl, .inl (.inl (s.ex _ _ hp)), e1, q x I H adr s Grow.refl e2⟩)
      | @lst p xs ds hp hr =>
        obtain ⟨x, e1, e2⟩ := reps_atI hr h
        exact .inl ⟨p, xs, i, x, rfl, rfl, .inl (.inl (s.ex _ _ hp)), e1, q x I H adr s Grow.refl e2⟩
      | _ => cases h)
theorem EV.ixC {n : Nat} {ps : List O} (ha : EV C a E M (.adr n) M1) (hb : EV C b E M1 (.dat (.int i)) M') (hm : M'[n]? = some (some ps)) (h : atI ps i = some o) (hs : PlainIx b := by exact fun _ _ => rfl) : EV C (.Subscript a b pos) E M o M' :=
  EV.mk (t := tOp (rIx C.g.K) (UE C a) (UE C b)) (fun X hX => by
    have := pe_ix (pos := pos) ix_seq (ue hX a) (ue hX b) hs
    rw [hX.K] at this
    exact this) (ev_op ha hb fun I H adr σ E v w Q s hv hw q => by
      cases rep_int hw
      obtain ⟨p, hp, rfl⟩ := hv
      obtain ⟨_, xs, h2, h3⟩ := s.sto.cell n p ps hp hm
      obtain ⟨x, e1, e2⟩ := vs_atI h3 h
      exact .inl ⟨p, xs, i, x, rfl, rfl, .inl (.inl h2), e1, q x I H adr s Grow.refl e2⟩)
/-- parts of a slice -/
def UO (C : Cc) (e : Option Expr) : TO := fun σ H Q => ∃ t : TO, (∀ X, CxIs C X → PO X e t) ∧ t σ H Q
theorem uo {C : Cc} {X : Cx} (h : CxIs C X) (e : Option Expr) : PO X e (UO C e) := ⟨fun pins s σ H Q I q => let ⟨_, p, q⟩ := q; (p X h).run pins s σ H Q I q⟩
def EO (C : Cc) (e : Option Expr) (E : List O) (M : Mem) (o : Option Int) (M' : Mem) : Prop :=
  ∀ (I H : Hp) (adr : List Addr) (σ : L2.St) (Q : Option Int → Hp → Prop), Stt I H adr σ E M → (∀ I' H' adr', Stt I' H' adr' σ E M' → Grow I H adr I' H' adr' → Q o H') → UO C e σ H Q
theorem EO.none : EO C none E M none M := fun I H adr σ Q s q => ⟨tNoPart, fun _ _ => po_none, q I H adr s Grow.refl⟩
theorem EO.some (h : EV C a E M (.dat (.int i)) M') : EO C (some a) E M (some i) M' := fun I H adr σ Q s q => ⟨tPart (UE C a), fun X hX => po_some (ue hX a), h I H adr σ _ s fun v I1 H1 adr1 s1 g1 v1 => by
  cases rep_int v1
  exact ⟨i, rfl, q I1 H1 adr1 s1 g1⟩⟩
def cutD {α : Type} (ds : List α) (lo hi : Option Int) : List α := (ds.drop (HT.sIx ds.length 0 lo)).take (HT.sIx ds.length ds.length hi - HT.sIx ds.length 0 lo)
theorem reps_cut {I : Hp} {ds : List D} {xs : List V} (r : Reps I ds xs) (lo hi : Option Int) : Reps I (cutD ds lo hi) (cutV xs lo hi) := by
  unfold cutD cutV
  rw [r.length]
  exact (r.drop _).take _
theorem vs_cut {I : Hp} {adr : List Addr} {ps : List O} {xs : List V} (r : Vs I adr ps xs) (lo hi : Option Int) : Vs I adr (cutD ps lo hi) (cutV xs lo hi) := by
  unfold cutD cutV
  rw [r.length]
  exact (r.drop _).take _
theorem cutD_all {α : Type} {ds : List α} {lo hi : Option Int} (h1 : HT.sIx ds.length 0 lo = 0) (h2 : HT.sIx ds.length ds.length hi = ds.length) : cutD ds lo hi = ds := by
  unfold cutD
  rw [h1, h2, List.drop_zero, Nat.sub_zero, List.take_length]
theorem EV.slT {ds : List D} {lo hi : Option Expr} {l u : Option Int} (ha : EV C a E M (.dat (.tup ds)) M1) (hl : EO C lo E M1 l M2) (hh : EO C hi E M2 u M') : EV C (.Subscript a (.Slice lo hi none p) pos) E M (.dat (.tup (cutD ds l u))) M' :=
  EV.mk (t := tSl (rSlA C.g.K) (UE C a) (UO C lo) (UO C hi)) (fun X hX => by
    have := pe_slice (p2 := p) (pos := pos) (sl_tupA (X := X)) (ue hX a) (uo hX lo) (uo hX hi)
    rw [hX.K] at this
    exact this) fun I H adr σ Q s q => ha I H adr σ _ s fun v I1 H1 adr1 s1 g1 v1 => hl I1 H1 adr1 σ _ s1 fun I2 H2 adr2 s2 g2 => hh I2 H2 adr2 σ _ s2 fun I3 H3 adr3 s3 g3 => by
      have v3 := (v1.mono g2).mono g3
      cases (show Rep I3 (.tup ds) v from v3) with
      | @tup b xs _ hb hr =>
        have l1 := hr.length
        refine ⟨b, xs, rfl, .inl (.inl (s3.ex _ _ hb)), fun hw => ?_, fun _ p hp => ?_⟩
        · rw [← l1] at hw
          rw [cutD_all hw.1 hw.2] at q
          exact q _ I3 H3 adr3 s3 ((g1.trans g2).trans g3) v3
        · obtain ⟨s4, g4, r4⟩ := s3.tup hp (reps_cut hr l u)
          exact q _ _ _ _ s4 (((g1.trans g2).trans g3).trans g4) r4
theorem EV.slL {ds : List D} {lo hi : Option Expr} {l u : Option Int} (ha : EV C a E M (.dat (.lst ds)) M1) (hl : EO C lo E M1 l M2) (hh : EO C hi E M2 u M') : EV C (.Subscript a (.Slice lo hi none p) pos) E M (.dat (.lst (cutD ds l u))) M' :=
  EV.mk (t := tSl (rSlL C.g.K) (UE C a) (UO C lo) (UO C hi)) (fun X hX => by
    have := pe_slice (p2 := p) (pos := pos) (sl_list (X := X)) (ue hX a) (uo hX lo) (uo hX hi)
    rw [hX.K] at this
    exact this) fun I H adr σ Q s q => ha I H adr σ _ s fun v I1 H1 adr1 s1 g1 v1 => hl I1 H1 adr1 σ _ s1 fun I2 H2 adr2 s2 g2 => hh I2 H2 adr2 σ _ s2 fun I3 H3 adr3 s3 g3 => by
      have v3 := (v1.mono g2).mono g3
      cases (show Rep I3 (.lst ds) v from v3) with
      | @lst b xs _ hb hr =>
        refine ⟨b, xs, rfl, .inl (.inl (s3.ex _ _ hb)), fun p hp => ?_⟩
        obtain ⟨s4, g4, r4⟩ := s3.lst hp (reps_cut hr l u)
        exact q _ _ _ _ s4 (((g1.trans g2).trans g3).trans g4) r4
/-- a slice of a cell of data -/
theorem EV.slC {n : Nat} {ds : List D} {lo hi : Option Expr} {l u : Option Int} (ha : EV C a E M (.adr n) M1) (hl : EO C lo E M1 l M2) (hh : EO C hi E M2 u M') (hm : M'[n]? = some (some (ds.map .dat))) : EV C (.Subscript a (.Slice lo hi none p) pos) E M (.dat (.lst (cutD ds l u))) M' :=
  EV.mk (t := tSl (rSlL C.g.K) (UE C a) (UO C lo) (UO C hi)) (fun X hX => by
    have := pe_slice (p2 := p) (pos := pos) (sl_list (X := X)) (ue hX a) (uo hX lo) (uo hX hi)
    rw [hX.K] at this
    exact this) fun I H adr σ Q s q => ha I H adr σ _ s fun v I1 H1 adr1 s1 g1 v1 => hl I1 H1 adr1 σ _ s1 fun I2 H2 adr2 s2 g2 => hh I2 H2 adr2 σ _ s2 fun I3 H3 adr3 s3 g3 => by
      obtain ⟨b, hb, rfl⟩ := (v1.mono g2).mono g3
      obtain ⟨_, xs, h2, h3⟩ := s3.sto.cell n b _ hb hm
      refine ⟨b, xs, rfl, .inl (.inl h2), fun p hp => ?_⟩
      obtain ⟨s4, g4, r4⟩ := s3.lst hp (reps_cut h3.to l u)
      exact q _ _ _ _ s4 (((g1.trans g2).trans g3).trans g4) r4

/-! #### calls of built-ins -/
def RK (r : List V → Hp → VK → Prop) (os : List O) (M : Mem) (o : O) (M' : Mem) : Prop :=
  ∀ (I H : Hp) (adr : List Addr) (σ : L2.St) (E : List O) (vs : List V) (Q : VK), Stt I H adr σ E M → Vs I adr os vs → (∀ z I' H' adr', Stt I' H' adr' σ E M' → Grow I H adr I' H' adr' → Vo I' adr' o z → Q z H') → r vs H Q
def KS (C : Cc) (f : Value) (os : List O) (M : Mem) (o : O) (M' : Mem) : Prop := ∃ r, (∀ X, CxIs C X → CallR X f r) ∧ RK r os M o M'
theorem ev_cb {r : List V → Hp → VK → Prop} {ta : TA} (ha : Ea ta E M os M1) (hr : RK r os M1 o M') : Ev (tCB r ta) E M o M' := fun I H adr σ Q s q =>
  ha I H adr σ _ s fun vs I1 H1 adr1 s1 g1 v1 => hr I1 H1 adr1 σ E vs Q s1 v1 fun z I2 H2 adr2 s2 g2 z2 => q z I2 H2 adr2 s2 (g1.trans g2) z2
theorem EV.cb {id : String} {x : Str} {es : List Expr} (S : KS C (.builtin id) os M1 o M') (ha : EA C (e :: es) E M os M1) (hm : Bt C.g x) (hv : bootBuiltins x = some (.builtin id)) (hg : C.sc.names.lookup x = some .globalImplicit := by rfl) (hn : x ≠ "__name__" := by decide) (hdb : (x == ("__debug__" : Str)) = false := by decide)
    (he : ∀ env, starEach (e :: es) env = (false, eval e env) :: starEach es env := by intro _; rfl) (hpl : ∀ env, (backTo pos (starEach es env)).any (·.1) = false := by intro _; rfl) : EV C (.Call (.Name x p) (e :: es) [] pos) E M o M' := by
  obtain ⟨r, h1, h2⟩ := S
  exact EV.mk (fun X hX => pe_callB (h1 X hX) (by show X.env.scope.names.lookup x = _; rw [hX.sc]; exact hg) (by rw [hX.mg]; exact hm) hv (ua hX _) hn hdb (he X.env) (hpl X.env)) (ev_cb ha h2)
theorem EV.cty {T : String} {x : Str} {es : List Expr} (S : KS C (.type T) os M1 o M') (ha : EA C (e :: es) E M os M1) (hm : Bt C.g x) (hv : bootBuiltins x = some (.type T)) (hg : C.sc.names.lookup x = some .globalImplicit := by rfl) (hn : x ≠ "__name__" := by decide) (hdb : (x == ("__debug__" : Str)) = false := by decide)
    (he : ∀ env, starEach (e :: es) env = (false, eval e env) :: starEach es env := by intro _; rfl) (hpl : ∀ env, (backTo pos (starEach es env)).any (·.1) = false := by intro _; rfl) : EV C (.Call (.Name x p) (e :: es) [] pos) E M o M' := by
  obtain ⟨r, h1, h2⟩ := S
  exact EV.mk (fun X hX => pe_callTy (h1 X hX) (by show X.env.scope.names.lookup x = _; rw [hX.sc]; exact hg) (by rw [hX.mg]; exact hm) hv (ua hX _) hn hdb (he X.env) (hpl X.env)) (ev_cb ha h2)
theorem vsOne {I : Hp} {adr : List Addr} {vs : List V} (h : Vs I adr [o] vs) : ∃ v, vs = [v] ∧ Vo I adr o v := by
  cases h with
  | cons h r =>
    cases r
    exact ⟨_, rfl, h⟩
theorem vsTwo {I : Hp} {adr : List Addr} {vs : List V} (h : Vs I adr [o1, o2] vs) : ∃ v w, vs = [v, w] ∧ Vo I adr o1 v ∧ Vo I adr o2 w := by
  cases h with
  | cons h r =>
    obtain ⟨w, rfl, hw⟩ := vsOne r
    exact ⟨_, w, rfl, h, hw⟩
def lenD : D → Option Nat
  | .tup ds => some ds.length
  | .lst ds => some ds.length
  | _ => none
theorem KS.len {n : Nat} (h : lenD d = some n) : KS C (.builtin "len") [.dat d] M (.dat (.int (n : Int))) M := ⟨_, fun X hX => by
  have := call_len_seq (X := X)
  rw [hX.K] at this
  exact this, fun I H adr σ E vs Q s hv q => by
  obtain ⟨v, ev, hz⟩ := vsOne hv
  subst ev
  have hv := hz
  cases (show Rep I d v from hv) with
  | @tup p xs ds hp hr =>
    cases h
    refine ⟨p, xs, rfl, .inr (.inl (.inl (s.ex _ _ hp))), q _ I H adr s Grow.refl ?_⟩
    rw [hr.length]
    exact .int _
  | @lst p xs ds hp hr =>
    cases h
    refine ⟨p, xs, rfl, .inl (.inl (.inl (s.ex _ _ hp))), q _ I H adr s Grow.refl ?_⟩
    rw [hr.length]
    exact .int _
  | _ => cases h⟩
theorem KS.lenC {n : Nat} {ps : List O} (h : M[n]? = some (some ps)) : KS C (.builtin "len") [.adr n] M (.dat (.int (ps.length : Int))) M := ⟨_, fun X hX => by
  have := call_len_seq (X := X)
  rw [hX.K] at this
  exact this, fun I H adr σ E vs Q s hv q => by
  obtain ⟨v, ev, hz⟩ := vsOne hv
  subst ev
  have hv := hz
  obtain ⟨p, hp, rfl⟩ := hv
  obtain ⟨_, xs, h2, h3⟩ := s.sto.cell n p ps hp h
  refine ⟨p, xs, rfl, .inl (.inl (.inl h2)), q _ I H adr s Grow.refl ?_⟩
  rw [h3.length]
  exact .int _⟩
theorem reps_bl {I : Hp} : ∀ {bs : List Bool} {xs : List V}, Reps I (bs.map .bl) xs → xs = bs.map V.bl
  | [], _, .nil => rfl
  | b :: bs, _, .cons h r => by
    cases h
    rw [reps_bl r]
    rfl
theorem reps_int {I : Hp} : ∀ {ns : List Int} {xs : List V}, Reps I (ns.map .int) xs → xs = ns.map V.int
  | [], _, .nil => rfl
  | n :: ns, _, .cons h r => by
    cases h
    rw [reps_int r]
    rfl
theorem KS.sum {ns : List Int} : KS C (.builtin "sum") [.dat (.lst (ns.map .int))] M (.dat (.int ns.sum)) M := ⟨_, fun X hX => by
  have := cr_sum (X := X) hX.calm
  rw [hX.K] at this
  exact this, fun I H adr σ E vs Q s hv q => by
  obtain ⟨v, ev, hz⟩ := vsOne hv
  subst ev
  have hv := hz
  cases (show Rep I (.lst (ns.map .int)) v from hv) with
  | @lst p xs ds hp hr =>
    have e := reps_int hr
    subst e
    exact ⟨p, ns, rfl, .inl (.inl (s.ex _ _ hp)), q _ I H adr s Grow.refl (.int _)⟩⟩
theorem KS.all {bs : List Bool} : KS C (.builtin "all") [.dat (.lst (bs.map .bl))] M (.dat (.bl (bs.all id))) M := ⟨_, fun X hX => by
  have := cr_all (X := X) hX.calm
  rw [hX.K] at this
  exact this, fun I H adr σ E vs Q s hv q => by
  obtain ⟨v, ev, hz⟩ := vsOne hv
  subst ev
  have hv := hz
  cases (show Rep I (.lst (bs.map .bl)) v from hv) with
  | @lst p xs ds hp hr =>
    have e := reps_bl hr
    subst e
    exact ⟨p, bs, rfl, .inl (.inl (s.ex _ _ hp)), q _ I H adr s Grow.refl (.bl _)⟩⟩
theorem KS.any {bs : List Bool} : KS C (.builtin "any") [.dat (.lst (bs.map .bl))] M (.dat (.bl (bs.any id))) M := ⟨_, fun X hX => by
  have := cr_any (X := X) hX.calm
  rw [hX.K] at this
  exact this, fun I H adr σ E vs Q s hv q => by
  obtain ⟨v, ev, hz⟩ := vsOne hv
  subst ev
  have hv := hz
  cases (show Rep I (.lst (bs.map .bl)) v from hv) with
  | @lst p xs ds hp hr =>
    have e := reps_bl hr
    subst e
    exact ⟨p, bs, rfl, .inl (.inl (s.ex _ _ hp)), q _ I H adr s Grow.refl (.bl _)⟩⟩
theorem KS.minL {ns : List Int} {m : Int} (h : m ∈ ns) (hm : ∀ y ∈ ns, m ≤ y) : KS C (.builtin "min") [.dat (.lst (ns.map .int))] M (.dat (.int m)) M := ⟨_, fun X hX => by
  have := cr_min (X := X) hX.calm
  rw [hX.K] at this
  exact this, fun I H adr σ E vs Q s hv q => by
  obtain ⟨v, ev, hz⟩ := vsOne hv
  subst ev
  have hv := hz
  cases (show Rep I (.lst (ns.map .int)) v from hv) with
  | @lst p xs ds hp hr =>
    have e := reps_int hr
    subst e
    refine ⟨p, ns, rfl, .inl (.inl (s.ex _ _ hp)), List.length_pos_of_mem h, fun m' h1 h2 => ?_⟩
    have : m' = m := Int.le_antisymm (h2 m h) (hm m' h1)
    subst this
    exact q _ I H adr s Grow.refl (.int _)⟩
theorem KS.maxL {ns : List Int} {m : Int} (h : m ∈ ns) (hm : ∀ y ∈ ns, y ≤ m) : KS C (.builtin "max") [.dat (.lst (ns.map .int))] M (.dat (.int m)) M := ⟨_, fun X hX => by
  have := cr_max (X := X) hX.calm
  rw [hX.K] at this
  exact this, fun I H adr σ E vs Q s hv q => by
  obtain ⟨v, ev, hz⟩ := vsOne hv
  subst ev
  have hv := hz
  cases (show Rep I (.lst (ns.map .int)) v from hv) with
  | @lst p xs ds hp hr =>
    have e := reps_int hr
    subst e
    refine ⟨p, ns, rfl, .inl (.inl (s.ex _ _ hp)), List.length_pos_of_mem h, fun m' h1 h2 => ?_⟩
    have : m' = m := Int.le_antisymm (hm m' h1) (h2 m h)
    subst this
    exact q _ I H adr s Grow.refl (.int _)⟩
theorem KS.max2 : KS C (.builtin "max") [.dat (.int i), .dat (.int j)] M (.dat (.int (if j > i then j else i))) M := ⟨_, fun X hX => call_max2 hX.calm, fun I H adr σ E vs Q s hv q => by
  obtain ⟨v, w, ev, hz, hw⟩ := vsTwo hv
  subst ev
  have hv := hz
  cases rep_int hv
  cases rep_int hw
  exact ⟨i, j, rfl, q _ I H adr s Grow.refl (.int _)⟩⟩
theorem KS.abs : KS C (.builtin "abs") [.dat (.int i)] M (.dat (.int (i.natAbs : Int))) M := ⟨_, fun X hX => call_abs, fun I H adr σ E vs Q s hv q => by
  obtain ⟨v, ev, hz⟩ := vsOne hv
  subst ev
  have hv := hz
  cases rep_int hv
  refine ⟨i, rfl, q _ I H adr s Grow.refl ?_⟩
  have : (if i < 0 then -i else i) = (i.natAbs : Int) := by split <;> omega
  rw [this]
  exact .int _⟩
theorem KS.intI : KS C (.type "int") [.dat (.int i)] M (.dat (.int i)) M := ⟨_, fun X hX => call_int1, fun I H adr σ E vs Q s hv q => by
  obtain ⟨v, ev, hz⟩ := vsOne hv
  subst ev
  have hv := hz
  cases rep_int hv
  exact .inl ⟨i, rfl, q _ I H adr s Grow.refl (.int _)⟩⟩
theorem KS.intB : KS C (.type "int") [.dat (.bl k)] M (.dat (.int (if k then 1 else 0))) M := ⟨_, fun X hX => call_int1, fun I H adr σ E vs Q s hv q => by
  obtain ⟨v, ev, hz⟩ := vsOne hv
  subst ev
  have hv := hz
  cases rep_bl hv
  exact .inr ⟨k, rfl, q _ I H adr s Grow.refl (.int _)⟩⟩
def seqD : D → Option (List D)
  | .tup ds => some ds
  | .lst ds => some ds
  | _ => none
theorem KS.tuple {ds : List D} (h : seqD d = some ds) : KS C (.type "tuple") [.dat d] M (.dat (.tup ds)) M := ⟨_, fun X hX => by
  have := call_tuple_of (X := X)
  rw [hX.K] at this
  exact this, fun I H adr σ E vs Q s hv q => by
  obtain ⟨v, ev, hz⟩ := vsOne hv
  subst ev
  have hv := hz
  cases (show Rep I d v from hv) with
  | @tup p xs ds hp hr =>
    cases h
    exact ⟨p, xs, rfl, .inr ⟨.inl (.inl (s.ex _ _ hp)), q _ I H adr s Grow.refl hv⟩⟩
  | @lst p xs ds hp hr =>
    cases h
    refine ⟨p, xs, rfl, .inl ⟨.inl (.inl (s.ex _ _ hp)), fun l hl => ?_⟩⟩
    obtain ⟨s2, g2, r2⟩ := s.tup hl hr
    exact q _ _ _ _ s2 g2 r2
  | _ => cases h⟩
theorem KS.tupleC {n : Nat} {ds : List D} (h : M[n]? = some (some (ds.map .dat))) : KS C (.type "tuple") [.adr n] M (.dat (.tup ds)) M := ⟨_, fun X hX => by
  have := call_tuple_of (X := X)
  rw [hX.K] at this
  exact this, fun I H adr σ E vs Q s hv q => by
  obtain ⟨v, ev, hz⟩ := vsOne hv
  subst ev
  have hv := hz
  obtain ⟨p, hp, rfl⟩ := hv
  obtain ⟨_, xs, h2, h3⟩ := s.sto.cell n p _ hp h
  refine ⟨p, xs, rfl, .inl ⟨.inl (.inl h2), fun l hl => ?_⟩⟩
  obtain ⟨s2, g2, r2⟩ := s.tup hl h3.to
  exact q _ _ _ _ s2 g2 r2⟩
theorem KS.list {ds : List D} (h : seqD d = some ds) : KS C (.type "list") [.dat d] M (.dat (.lst ds)) M := ⟨_, fun X hX => by
  have := call_list_of (X := X)
  rw [hX.K] at this
  exact this, fun I H adr σ E vs Q s hv q => by
  obtain ⟨v, ev, hz⟩ := vsOne hv
  subst ev
  have hv := hz
  cases (show Rep I d v from hv) with
  | @tup p xs ds hp hr =>
    cases h
    refine ⟨p, xs, rfl, .inr (.inl (.inl (s.ex _ _ hp))), fun l hl => ?_⟩
    obtain ⟨s2, g2, r2⟩ := s.lst hl hr
    exact q _ _ _ _ s2 g2 r2
  | @lst p xs ds hp hr =>
    cases h
    refine ⟨p, xs, rfl, .inl (.inl (.inl (s.ex _ _ hp))), fun l hl => ?_⟩
    obtain ⟨s2, g2, r2⟩ := s.lst hl hr
    exact q _ _ _ _ s2 g2 r2
  | _ => cases h⟩
/-- list(..) that is a cell -/
theorem KS.listN {ds : List D} (h : seqD d = some ds) : KS C (.type "list") [.dat d] M (.adr M.length) (M ++ [some (ds.map .dat)]) := ⟨_, fun X hX => by
  have := call_list_of (X := X)
  rw [hX.K] at this
  exact this, fun I H adr σ E vs Q s hv q => by
  obtain ⟨v, ev, hz⟩ := vsOne hv
  subst ev
  have hv := hz
  cases (show Rep I d v from hv) with
  | @tup p xs ds hp hr =>
    cases h
    refine ⟨p, xs, rfl, .inr (.inl (.inl (s.ex _ _ hp))), fun l hl => ?_⟩
    obtain ⟨s2, g2, r2⟩ := s.cel hl (Vs.reps hr)
    exact q _ _ _ _ s2 g2 ⟨l, r2, rfl⟩
  | @lst p xs ds hp hr =>
    cases h
    refine ⟨p, xs, rfl, .inl (.inl (.inl (s.ex _ _ hp))), fun l hl => ?_⟩
    obtain ⟨s2, g2, r2⟩ := s.cel hl (Vs.reps hr)
    exact q _ _ _ _ s2 g2 ⟨l, r2, rfl⟩
  | _ => cases h⟩

/-! #### isinstance -/
def D.ty : D → String
  | .non => "NoneType" | .bl _ => "bool" | .int _ => "int" | .str _ => "str" | .tup _ => "tuple" | .lst _ => "list" | .dct _ _ => "dict"
theorem ty_of {K : PySem.W.Frag} {I H : Hp} {v : V} (e : Ex I H) (h : Rep I d v) : TyX K H v (.type d.ty) := by
  cases h with
  | non => exact .base .non
  | bl b => exact .base (.bl b)
  | int i => exact .base (.int i)
  | str x => exact .base (.str x)
  | tup h r => exact .base (.tup (e _ _ h))
  | lst h r => exact .base (.lst (e _ _ h))
  | dct h r => exact .base (.dK (e _ _ h))
/-- isinstance(x, T), T the name of a built-in class -/
theorem EV.isi {T : Str} {Tn : String} {x : Str} {pt : Pos} (ha : EV C a E M (.dat d) M') (hm : Bt C.g "isinstance") (hmT : Bt C.g T) (hv : bootBuiltins T = some (.type Tn)) (hk : kitB d.ty Tn = some k) (hx : x = "isinstance" := by rfl)
    (hg : C.sc.names.lookup x = some .globalImplicit := by rfl) (hgT : C.sc.names.lookup T = some .globalImplicit := by rfl) (hn : x ≠ "__name__" := by decide) (hdb : (x == ("__debug__" : Str)) = false := by decide) (hnT : T ≠ "__name__" := by decide) (hdbT : (T == ("__debug__" : Str)) = false := by decide)
    (hs : ∀ env, starEach [a, .Name T pt] env = (false, eval a env) :: starEach [.Name T pt] env := by intro _; rfl) (hpl : ∀ env, (backTo pos (starEach [.Name T pt] env)).any (·.1) = false := by intro _; rfl) : EV C (.Call (.Name x p) [a, .Name T pt] [] pos) E M (.dat (.bl k)) M' := by
  subst hx
  refine EV.mk (t := tCB (rIsi C.g.K) (tCons (UE C a) (tCons (tC (.ty Tn)) tNil))) (fun X hX => ?_) fun I H adr σ Q s q => ?_
  · have h1 := call_isi (X := X)
    rw [hX.K] at h1
    refine pe_callB h1 (by show X.env.scope.names.lookup _ = _; rw [hX.sc]; exact hg) (by rw [hX.mg]; exact hm) (by decide +kernel) (pa_cons (ue hX a) (pa_cons (pe_bltn (v := .ty Tn) (by show X.env.scope.names.lookup _ = _; rw [hX.sc]; exact hgT) (by rw [hX.mg]; exact hmT) hv rfl hnT hdbT) pa_nil) (hs X.env)) hn hdb (hs X.env) (hpl X.env)
  · refine ha I H adr σ _ s fun v I1 H1 adr1 s1 g1 v1 => ?_
    exact ⟨v, .ty Tn, _, _, k, rfl, .ty Tn, ty_of s1.ex v1, kit_ty hk, q _ I1 H1 adr1 s1 g1 (.bl _)⟩
/-- isinstance(x, (T1, T2)) -/
theorem EV.isi2 {T1 T2 : Str} {Tn1 Tn2 : String} {x : Str} {pt1 pt2 pt : Pos} {k1 k2 : Bool} {kt : Nat} (ha : EV C a E M (.dat d) M') (hm : Bt C.g "isinstance") (hm1 : Bt C.g T1) (hm2 : Bt C.g T2) (hv1 : bootBuiltins T1 = some (.type Tn1)) (hv2 : bootBuiltins T2 = some (.type Tn2)) (hk1 : kitB d.ty Tn1 = some k1) (hk2 : kitB d.ty Tn2 = some k2) (hx : x = "isinstance" := by rfl)
    (hg : C.sc.names.lookup x = some .globalImplicit := by rfl) (hg1 : C.sc.names.lookup T1 = some .globalImplicit := by rfl) (hg2 : C.sc.names.lookup T2 = some .globalImplicit := by rfl) (hn : x ≠ "__name__" := by decide) (hdb : (x == ("__debug__" : Str)) = false := by decide) (hn1 : T1 ≠ "__name__" := by decide) (hdb1 : (T1 == ("__debug__" : Str)) = false := by decide) (hn2 : T2 ≠ "__name__" := by decide) (hdb2 : (T2 == ("__debug__" : Str)) = false := by decide)
    (hs : ∀ env, starEach [a, .Tuple [.Name T1 pt1, .Name T2 pt2] kt pt] env = (false, eval a env) :: starEach [.Tuple [.Name T1 pt1, .Name T2 pt2] kt pt] env := by intro _; rfl) (hpl : ∀ env, (backTo pos (starEach [.Tuple [.Name T1 pt1, .Name T2 pt2] kt pt] env)).any (·.1) = false := by intro _; rfl) :
    EV C (.Call (.Name x p) [a, .Tuple [.Name T1 pt1, .Name T2 pt2] kt pt] [] pos) E M (.dat (.bl (k1 || k2))) M' := by
  subst hx
  refine EV.mk (t := tCB (rIsiT C.g.K) (tCons (UE C a) (tCons (tTup (tCons (tC (.ty Tn1)) (tCons (tC (.ty Tn2)) tNil))) tNil))) (fun X hX => ?_) fun I H adr σ Q s q => ?_
  · have h1 := call_isiT (X := X)
    rw [hX.K] at h1
    refine pe_callB h1 (by show X.env.scope.names.lookup _ = _; rw [hX.sc]; exact hg) (by rw [hX.mg]; exact hm) (by decide +kernel)
      (pa_cons (ue hX a) (pa_cons (pe_tup (pa_cons (pe_bltn (v := .ty Tn1) (by show X.env.scope.names.lookup _ = _; rw [hX.sc]; exact hg1) (by rw [hX.mg]; exact hm1) hv1 rfl hn1 hdb1) (pa_cons (pe_bltn (v := .ty Tn2) (by show X.env.scope.names.lookup _ = _; rw [hX.sc]; exact hg2) (by rw [hX.mg]; exact hm2) hv2 rfl hn2 hdb2) pa_nil))) pa_nil) (hs X.env)) hn hdb (hs X.env) (hpl X.env)
  · refine ha I H adr σ _ s fun v I1 H1 adr1 s1 g1 v1 => ?_
    refine ⟨by show 2 ≤ sizeLine; decide, fun tp htp => ?_⟩
    have hi := s1.ex.non htp
    have ex2 : Ex I1 (upd H1 tp (.tup [.ty Tn1, .ty Tn2])) := s1.ex.mut hi
    refine ⟨v, tp, [.ty Tn1, .ty Tn2], _, [.type Tn1, .type Tn2], k1 || k2, rfl, upd_same, .cons (.ty Tn1) (.cons (.ty Tn2) .nil), ty_of ex2 v1, ?_, ?_⟩
    · refine kitAny_cons (kit_ty hk1) (fun e => kitAny_cons (r := k1 || k2) (kit_ty hk2) (fun e2 => by rw [e, e2]; exact kitAny_nil) (fun e2 => by rw [e2]; simp)) (fun e => by rw [e]; rfl)
    · have g2 : Grow I1 H1 adr1 I1 (upd H1 tp (.tup [.ty Tn1, .ty Tn2])) adr1 :=
        ⟨Ex.refl _, ⟨[], by simp, by simp⟩, fun q u h _ _ => by rw [upd_ne (ne_of_none h htp)]; exact h, fun q u h n => ⟨u, by rw [upd_ne (ne_of_none h htp)]; exact h, n⟩, fun _ _ _ _ h _ => h, fun c q h => by rw [upd_ne (ne_of_none h htp)]; exact h⟩
      have t2 : Sto I1 (upd H1 tp (.tup [.ty Tn1, .ty Tn2])) adr1 M' := by
        refine ⟨s1.sto.len, s1.sto.nd, fun kk b ps h1 h2 => ?_, fun kk b h => ?_, s1.sto.amb.new htp⟩
        · obtain ⟨c1, ys, c2, c3⟩ := s1.sto.cell kk b ps h1 h2
          exact ⟨c1, ys, by rw [upd_ne (ne_of_none c2 htp)]; exact c2, c3⟩
        · obtain ⟨u, hu, n⟩ := s1.sto.dom kk b h
          exact ⟨u, by rw [upd_ne (ne_of_none hu htp)]; exact hu, n⟩
      exact q _ I1 _ adr1 (s1.mono g2 ex2 t2) (g1.trans g2) (.bl _)
end
end Ab
/-! Ab: targets, loops, comprehensions, methods, calls. -/
namespace Ab
open PySem PySem.Spec PyProof.Rows L2
variable [TabCtx]

/-! ### targets -/
def UG (C : Cc) (tg : Expr) : TG := fun v σ H Q => ∃ t : TG, (∀ X, CxIs C X → PG X tg t) ∧ t v σ H Q
def UGs (C : Cc) (tgs : List Expr) : TGs := fun vs σ H Q => ∃ t : TGs, (∀ X, CxIs C X → PGs X tgs t) ∧ t vs σ H Q
theorem ug {C : Cc} {X : Cx} (h : CxIs C X) (e : Expr) : PG X e (UG C e) := ⟨fun pins s σ H v u Q I r q => let ⟨_, p, q⟩ := q; (p X h).run pins s σ H v u Q I r q⟩
theorem ugs {C : Cc} {X : Cx} (h : CxIs C X) (es : List Expr) : PGs X es (UGs C es) := ⟨fun pins s σ H vs us Q I r q => let ⟨_, p, q⟩ := q; (p X h).run pins s σ H vs us Q I r q⟩
def EG (C : Cc) (tg : Expr) (o : O) (E : List O) (M : Mem) (E' : List O) (M' : Mem) : Prop :=
  ∀ (I H : Hp) (adr : List Addr) (σ : L2.St) (v : V) (Q : L2.St → Hp → Prop), Stt I H adr σ E M → Vo I adr o v → (∀ I' H' adr' σ', Stt I' H' adr' σ' E' M' → Grow I H adr I' H' adr' → Q σ' H') → UG C tg v σ H Q
def EGs (C : Cc) (tgs : List Expr) (os : List O) (E : List O) (M : Mem) (E' : List O) (M' : Mem) : Prop :=
  ∀ (I H : Hp) (adr : List Addr) (σ : L2.St) (vs : List V) (Q : L2.St → Hp → Prop), Stt I H adr σ E M → Vs I adr os vs → (∀ I' H' adr' σ', Stt I' H' adr' σ' E' M' → Grow I H adr I' H' adr' → Q σ' H') → UGs C tgs vs σ H Q
/-- what is forgotten -/
def Fg (E E' : List O) : Prop := E.length = E'.length ∧ ∀ (i : Nat) (o : O), E'[i]? = some o → o = .no ∨ E[i]? = some o
theorem Fg.refl {E : List O} : Fg E E := ⟨rfl, fun _ _ h => .inr h⟩
theorem Fg.cons {o : O} {E E' : List O} (h : Fg E E') : Fg (o :: E) (o :: E') := ⟨by simp [h.1], fun i p q => by
  cases i with
  | zero => exact .inr q
  | succ i => exact h.2 i p (by simpa using q)⟩
theorem Fg.no {o : O} {E E' : List O} (h : Fg E E') : Fg (o :: E) (.no :: E') := ⟨by simp [h.1], fun i p q => by
  cases i with
  | zero => exact .inl (by simpa using q.symm)
  | succ i => exact h.2 i p (by simpa using q)⟩
theorem Fg.nil : Fg [] [] := Fg.refl
theorem Stt.forget {I H : Hp} {adr : List Addr} {σ : L2.St} {E E' : List O} {M : Mem} (s : Stt I H adr σ E M) (f : Fg E E') : Stt I H adr σ E' M :=
  ⟨s.ex, s.sto, f.1.symm.trans s.len, fun i o ov h1 h2 => by
    rcases f.2 i o h1 with e | e
    · subst e
      cases ov with
      | none => rfl
      | some v => exact True.intro
    · exact s.slot i o ov e h2⟩

section
variable {C : Cc} {E E1 E2 E' : List O} {M M1 M2 M3 M' : Mem} {o o1 o2 o3 : O} {os : List O} {e a b c tg iter elt : Expr} {es : List Expr} {pos pos' p : Pos} {d d1 d2 : D} {i j : Int} {k k' : Bool} {r : Out} {body : List Stmt}
theorem EG.nm (i : Nat) {x : Str} (nd : C.N.Nodup) (hi : C.N[i]? = some x := by rfl) (hx : Loc C.sc x := by first | exact Or.inl rfl | exact Or.inr rfl) (hf : C.fn x = true ∨ C.sc.names.lookup x = some .local := by first | exact .inl rfl | exact .inr rfl) : EG C (.Name x pos) o E M (E.set i o) M :=
  fun I H adr σ v Q s hv q => ⟨gName i, fun X hX => pg_name (by rw [hX.N]; exact nd) (by rw [hX.N]; exact hi) (by rw [hX.sc]; exact hx) (hf.elim (fun z => .inl (hX.fn x z)) (fun z => .inr (by rw [hX.sc]; exact z))), q I H adr _ (s.set hv) Grow.refl⟩
theorem EGs.nil : EGs C [] [] E M E M := fun I H adr σ vs Q s hv q => by
  cases hv
  exact ⟨gNil, fun _ _ => pgs_nil, rfl, q I H adr σ s Grow.refl⟩
theorem EGs.cons (h : EG C a o E M E1 M1) (hr : EGs C es os E1 M1 E' M') (hs : ∀ env, (assignEach (a :: es) env).map (·.2) = assign a env :: (assignEach es env).map (·.2) := by intro _; rfl) : EGs C (a :: es) (o :: os) E M E' M' :=
  fun I H adr σ vs Q s hv q => by
    cases hv with
    | @cons _ v _ vs hv hr' =>
      refine ⟨gCons (UG C a) (UGs C es), fun X hX => pgs_cons (ug hX a) (ugs hX es) (hs X.env), v, vs, rfl, ?_⟩
      exact h I H adr σ v _ s hv fun I1 H1 adr1 σ1 s1 g1 => hr I1 H1 adr1 σ1 vs Q s1 (Vs.mono g1 hr') fun I2 H2 adr2 σ2 s2 g2 => q I2 H2 adr2 σ2 s2 (g1.trans g2)
theorem EG.tup {ds : List D} {kk : Nat} (h : EGs C es (ds.map .dat) E M E' M') (hn : ∀ env, (assignEach es env).length = ds.length := by intro _; rfl) (hst : ∀ env, (assignEach es env).findIdx? (·.1) = none := by intro _; rfl) : EG C (.Tuple es kk pos) (.dat (.tup ds)) E M E' M' :=
  fun I H adr σ v Q s hv q => by
    cases (show Rep I (.tup ds) v from hv) with
    | @tup p xs _ hp hr =>
      refine ⟨gTup C.g.K ds.length (UGs C es), fun X hX => by
        have := pg_tup (pos := pos) (k := kk) hX.calm (ugs hX es) (hn X.env) (hst X.env)
        rw [hX.K] at this
        exact this, p, xs, rfl, .inl (.inl (s.ex _ _ hp)), hr.length.symm, ?_⟩
      exact h I H adr σ xs Q s (Vs.reps hr) q
/-- o[i] = .., o a cell -/
theorem EG.sub {n jj : Nat} {ps : List O} (ho : EV C a E M (.adr n) M1) (hi : EV C b E M1 (.dat (.int i)) M2) (hm : M2[n]? = some (some ps)) (hj : ixN ps.length i = some jj)
    (ha : ∀ env v, assign (.Subscript a b pos) env v = (do
      let ov ← holding [v] (eval a env)
      let iv ← holding [v, ov] (eval b env)
      standAt pos
      holding [v, ov, iv] (setItem ov iv v)
      release [v, ov, iv] []) := by intro _ _; rfl) : EG C (.Subscript a b pos) o E M E (M2.set n (some (ps.set jj o))) :=
  fun I H adr σ v Q s hv q => ⟨gSub (UE C a) (UE C b) rSetL, fun X hX => pg_sub (ue hX a) (ue hX b) set_list (ha X.env),
    ho I H adr σ _ s fun x I1 H1 adr1 s1 g1 x1 => hi I1 H1 adr1 σ _ s1 fun y I2 H2 adr2 s2 g2 y2 => by
      cases rep_int y2
      obtain ⟨p, hp, rfl⟩ := x1.mono g2
      obtain ⟨_, xs, h2, h3⟩ := s2.sto.cell n p ps hp hm
      have hv2 : Vo I2 adr2 o v := (hv.mono g1).mono g2
      obtain ⟨s4, g4⟩ := s2.wri hp hm (Vs.set hv2 jj h3)
      exact ⟨p, xs, i, jj, rfl, rfl, h2, by rw [← h3.length]; exact hj, q _ _ _ _ s4 ((g1.trans g2).trans g4)⟩⟩
/-- target = e -/
theorem ST.asg (he : EV C e E M o M1) (hg : EG C tg o E M1 E' M') (hs : ∀ env, swapsWithSole [tg] e pos.line env = pure false := by intro _; rfl) (hw : ∀ env, swappedStores [tg] e env = pure none := by intro _; rfl) (h1 : ∀ env, (assignEach [tg] env).map (·.2) = [assign tg env] := by intro _; rfl) : ST C (.Assign [tg] e pos) E M (.nx E' M') :=
  ST.mk (fun X hX => ps_asg (ue hX e) (ug hX tg) (hs X.env) (hw X.env) (h1 X.env)) fun I H adr σ D s q => he I H adr σ _ s fun v I1 H1 adr1 s1 g1 v1 => hg I1 H1 adr1 σ v _ s1 v1 fun I2 H2 adr2 σ2 s2 g2 => q I2 H2 adr2 σ2 s2 (g1.trans g2)
theorem ST.forget {st : Stmt} (h : ST C st E M (.nx E1 M')) (f : Fg E1 E2) : ST C st E M (.nx E2 M') := fun I H adr σ D s q => h I H adr σ D s fun I1 H1 adr1 σ1 s1 g1 => q I1 H1 adr1 σ1 (s1.forget f) g1
theorem SB.forget {sts : List Stmt} (f : Fg E E1) (h : SB C sts E1 M r) : SB C sts E M r := fun I H adr σ D s q => h I H adr σ D (s.forget f) q

/-! ### what is walked -/
def Runs (J : It) (I1 H1 : Hp) (adr1 : List Addr) (n : Nat) (it : Nat → O) (inv : Mem → Prop) : Prop :=
  ∀ (I2 H2 : Hp) (adr2 : List Addr) (σ2 : L2.St) (E2 : List O) (M2 : Mem), Stt I2 H2 adr2 σ2 E2 M2 → Grow I1 H1 adr1 I2 H2 adr2 → inv M2 → J.stop n H2 ∧
    ∀ i, i < n → J.go i H2 ∧ ∀ x H3, J.yld i H2 x H3 → ∃ I3, Stt I3 H3 adr2 σ2 E2 M2 ∧ Grow I2 H2 adr2 I3 H3 adr2 ∧ Vo I3 adr2 (it i) x
def UI (C : Cc) (tg iter : Expr) : TI := fun σ H R => ∃ t : TI, (∀ X, CxIs C X → PI X tg iter t) ∧ t σ H R
theorem ui {C : Cc} {X : Cx} (h : CxIs C X) (tg iter : Expr) : PI X tg iter (UI C tg iter) := ⟨fun pins s σ H R I q => let ⟨_, p, q⟩ := q; (p X h).run pins s σ H R I q⟩
def EI (C : Cc) (tg iter : Expr) (E : List O) (M : Mem) (n : Nat) (it : Nat → O) (M1 : Mem) (inv : Mem → Prop) : Prop :=
  ∀ (I H : Hp) (adr : List Addr) (σ : L2.St) (R : It → Hp → Prop), Stt I H adr σ E M → (∀ J I1 H1 adr1, Stt I1 H1 adr1 σ E M1 → Grow I H adr I1 H1 adr1 → Runs J I1 H1 adr1 n it inv → R J H1) → UI C tg iter σ H R
abbrev tt : Mem → Prop := fun _ => True
def atO (ds : List D) (i : Nat) : O := .dat (ds.getD i .non)
theorem atO_get {ds : List D} {i : Nat} (h : i < ds.length) : ds[i]? = some (ds.getD i .non) := by
  rw [List.getD_eq_getElem?_getD, List.getElem?_eq_getElem h]
  rfl
theorem sql_uniq {K : PySem.W.Frag} {H : Hp} {p : Addr} {xs : List V} (h : H p = some (.lst xs)) : SqL K H p xs := .inl (.inl h)
theorem sqt_uniq {K : PySem.W.Frag} {H : Hp} {p : Addr} {xs : List V} (h : H p = some (.tup xs)) : SqT K H p xs := .inl (.inl h)
theorem EI.lst {ds : List D} (h : EV C iter E M (.dat (.lst ds)) M1) : EI C tg iter E M ds.length (atO ds) M1 tt := fun I H adr σ R s q =>
  ⟨iList C.g.K (UE C iter), fun X hX => by
    have := pi_list (tg := tg) (ue hX iter)
    rw [hX.K] at this
    exact this, h I H adr σ _ s fun v I1 H1 adr1 s1 g1 v1 => by
      cases (show Rep I1 (.lst ds) v from v1) with
      | @lst p xs _ hp hr =>
        refine ⟨p, rfl, ⟨xs, sql_uniq (s1.ex _ _ hp)⟩, q _ I1 H1 adr1 s1 g1 fun I2 H2 adr2 σ2 E2 M2 s2 g2 _ => ?_⟩
        have h2 : I2 p = some (.lst xs) := g2.ex _ _ hp
        have h3 : H2 p = some (.lst xs) := s2.ex _ _ h2
        refine ⟨⟨xs, sql_uniq h3, by rw [hr.length]; exact Nat.le_refl _⟩, fun i hi => ?_⟩
        obtain ⟨x, hx, hrx⟩ := hr.get (atO_get hi)
        refine ⟨⟨xs, x, sql_uniq h3, hx⟩, fun y H3 hy => ?_⟩
        obtain ⟨rfl, hy⟩ := hy
        have e : y = x := Option.some.inj ((hy xs (sql_uniq h3)).symm.trans hx)
        subst e
        exact ⟨I2, s2, Grow.refl, hrx.mono g2.ex⟩⟩
theorem EI.tup {ds : List D} (h : EV C iter E M (.dat (.tup ds)) M1) : EI C tg iter E M ds.length (atO ds) M1 tt := fun I H adr σ R s q =>
  ⟨iTup C.g.K (UE C iter), fun X hX => by
    have := pi_tup (tg := tg) (ue hX iter)
    rw [hX.K] at this
    exact this, h I H adr σ _ s fun v I1 H1 adr1 s1 g1 v1 => by
      cases (show Rep I1 (.tup ds) v from v1) with
      | @tup p xs _ hp hr =>
        refine ⟨p, rfl, ⟨xs, sqt_uniq (s1.ex _ _ hp)⟩, q _ I1 H1 adr1 s1 g1 fun I2 H2 adr2 σ2 E2 M2 s2 g2 _ => ?_⟩
        have h2 : I2 p = some (.tup xs) := g2.ex _ _ hp
        have h3 : H2 p = some (.tup xs) := s2.ex _ _ h2
        refine ⟨⟨xs, sqt_uniq h3, by rw [hr.length]; exact Nat.le_refl _⟩, fun i hi => ?_⟩
        obtain ⟨x, hx, hrx⟩ := hr.get (atO_get hi)
        refine ⟨⟨xs, x, sqt_uniq h3, hx⟩, fun y H3 hy => ?_⟩
        obtain ⟨rfl, hy⟩ := hy
        have e : y = x := Option.some.inj ((hy xs (sqt_uniq h3)).symm.trans hx)
        subst e
        exact ⟨I2, s2, Grow.refl, hrx.mono g2.ex⟩⟩
theorem EI.seq {ds : List D} (h : EV C iter E M (.dat d) M1) (hd : seqD d = some ds) : EI C tg iter E M ds.length (atO ds) M1 tt := by
  cases d <;> first | (cases hd; exact EI.tup h) | (cases hd; exact EI.lst h) | cases hd
/-- over a cell that the body leaves as it is -/
theorem EI.cell {n : Nat} {ps : List O} (h : EV C iter E M (.adr n) M1) (hm : M1[n]? = some (some ps)) : EI C tg iter E M ps.length (fun i => ps.getD i .no) M1 (fun M' => M'[n]? = some (some ps)) := fun I H adr σ R s q =>
  ⟨iList C.g.K (UE C iter), fun X hX => by
    have := pi_list (tg := tg) (ue hX iter)
    rw [hX.K] at this
    exact this, h I H adr σ _ s fun v I1 H1 adr1 s1 g1 v1 => by
      obtain ⟨p, hp, rfl⟩ := v1
      obtain ⟨_, xs, h2, h3⟩ := s1.sto.cell n p ps hp hm
      refine ⟨p, rfl, ⟨xs, sql_uniq h2⟩, q _ I1 H1 adr1 s1 g1 fun I2 H2 adr2 σ2 E2 M2 s2 g2 hinv => ?_⟩
      obtain ⟨_, ys, h4, h5⟩ := s2.sto.cell n p ps (g2.get hp) hinv
      refine ⟨⟨ys, sql_uniq h4, by rw [h5.length]; exact Nat.le_refl _⟩, fun i hi => ?_⟩
      have hget : ps[i]? = some (ps.getD i .no) := by
        rw [List.getD_eq_getElem?_getD, List.getElem?_eq_getElem hi]
        rfl
      obtain ⟨x, hx, hrx⟩ := h5.get hget
      refine ⟨⟨ys, x, sql_uniq h4, hx⟩, fun y H3 hy => ?_⟩
      obtain ⟨rfl, hy⟩ := hy
      have e : y = x := Option.some.inj ((hy ys (sql_uniq h4)).symm.trans hx)
      subst e
      exact ⟨I2, s2, Grow.refl, hrx⟩⟩
def atI0 (lo : Int) (i : Nat) : O := .dat (.int (lo + i))
theorem EI.rng1 {x : Str} (h : EV C a E M (.dat (.int j)) M1) (hm : Bt C.g "range") (hj : -(2 ^ 62) ≤ j ∧ j < 2 ^ 62) (hx : x = "range" := by rfl) (hg : C.sc.names.lookup x = some .globalImplicit := by rfl)
    (hs : ∀ env, starEach [a] env = [(false, eval a env)] := by intro _; rfl) : EI C tg (.Call (.Name x p) [a] [] pos) E M j.toNat (atI0 0) M1 tt := fun I H adr σ R s q => by
  subst hx
  refine ⟨iRng1 (tCons (UE C a) tNil), fun X hX => pi_range1 (by show X.env.scope.names.lookup _ = _; rw [hX.sc]; exact hg) (by rw [hX.mg]; exact hm) (pa_cons (ue hX a) pa_nil (hs X.env)) (hs X.env), ?_⟩
  refine h I H adr σ _ s fun v I1 H1 adr1 s1 g1 v1 => ?_
  cases rep_int v1
  refine ⟨j, rfl, hj.1, hj.2, q _ I1 H1 adr1 s1 g1 fun I2 H2 adr2 σ2 E2 M2 s2 g2 _ => ⟨Nat.le_refl _, fun i hi => ⟨hi, fun y H3 hy => ?_⟩⟩⟩
  obtain ⟨rfl, rfl⟩ := hy
  exact ⟨I2, s2, Grow.refl, .int _⟩
theorem EI.rng2 {x : Str} (h : EV C a E M (.dat (.int i)) M1) (h' : EV C b E M1 (.dat (.int j)) M2) (hm : Bt C.g "range") (hi : -(2 ^ 62) ≤ i ∧ i < 2 ^ 62) (hj : -(2 ^ 62) ≤ j ∧ j < 2 ^ 62) (hx : x = "range" := by rfl) (hg : C.sc.names.lookup x = some .globalImplicit := by rfl)
    (hs : ∀ env, starEach [a, b] env = [(false, eval a env), (false, eval b env)] := by intro _; rfl) (hs2 : ∀ env, starEach [b] env = [(false, eval b env)] := by intro _; rfl) : EI C tg (.Call (.Name x p) [a, b] [] pos) E M (j - i).toNat (atI0 i) M2 tt := fun I H adr σ R s q => by
  subst hx
  refine ⟨iRng2 (tCons (UE C a) (tCons (UE C b) tNil)), fun X hX => pi_range2 (by show X.env.scope.names.lookup _ = _; rw [hX.sc]; exact hg) (by rw [hX.mg]; exact hm) (pa_cons (ue hX a) (pa_cons (ue hX b) pa_nil (hs2 X.env)) (by rw [hs X.env, hs2 X.env])) (hs X.env) (hs2 X.env), ?_⟩
  refine h I H adr σ _ s fun v I1 H1 adr1 s1 g1 v1 => h' I1 H1 adr1 σ _ s1 fun w I2 H2 adr2 s2 g2 w2 => ?_
  cases rep_int v1
  cases rep_int w2
  refine ⟨i, j, rfl, ⟨hi.1, hi.2, hj.1, hj.2⟩, q _ I2 H2 adr2 s2 (g1.trans g2) fun I3 H3 adr3 σ3 E3 M3 s3 g3 _ => ⟨Nat.le_refl _, fun n hn => ⟨hn, fun y H4 hy => ?_⟩⟩⟩
  obtain ⟨rfl, rfl⟩ := hy
  exact ⟨I3, s3, Grow.refl, .int _⟩
def atZ (ds es : List D) (i : Nat) : O := .dat (.tup [ds.getD i .non, es.getD i .non])
theorem EI.zip {ds es : List D} {x : Str} {elts : List Expr} {kk : Nat} {tp : Pos} (h1 : EV C a E M (.dat d1) M1) (h2 : EV C b E M1 (.dat d2) M2) (hd : (d1 = .tup ds ∧ d2 = .tup es) ∨ (d1 = .lst ds ∧ d2 = .lst es)) (hm : Bt C.g "zip") (hx : x = "zip" := by rfl) (hg : C.sc.names.lookup x = some .globalImplicit := by rfl)
    (hs : ∀ env, starEach [a, b] env = (false, eval a env) :: starEach [b] env := by intro _; rfl) (hs2 : ∀ env, starEach [b] env = (false, eval b env) :: starEach [] env := by intro _; rfl) (hpl : ∀ env, (backTo pos (starEach [b] env)).any (·.1) = false := by intro _; rfl) :
    EI C (.Tuple elts kk tp) (.Call (.Name x p) [a, b] [] pos) E M (min ds.length es.length) (atZ ds es) M2 tt := fun I H adr σ R s q => by
  subst hx
  refine ⟨RZ.iZipA C.g.K (tCons (UE C a) (tCons (UE C b) tNil)), fun X hX => by
    have := RZ.pi_zipA (tpos := tp) (elts := elts) (kk := kk) (p := p) (pos := pos) (X := X) (by show X.env.scope.names.lookup _ = _; rw [hX.sc]; exact hg) (by rw [hX.mg]; exact hm) (pa_cons (ue hX a) (pa_cons (ue hX b) pa_nil (hs2 X.env)) (hs X.env)) (hs X.env) (hpl X.env)
    rw [hX.K] at this
    exact this, ?_⟩
  refine h1 I H adr σ _ s fun v I1 H1 adr1 s1 g1 v1 => h2 I1 H1 adr1 σ _ s1 fun w I2 H2 adr2 s2 g2 w2 => ?_
  have v2 := v1.mono g2
  have turn : ∀ {xs ys : List V} {I3 H3 : Hp} {adr3 : List Addr} {σ3 : L2.St} {E3 : List O} {M3 : Mem} (hr : Reps I2 ds xs) (hr' : Reps I2 es ys) (s3 : Stt I3 H3 adr3 σ3 E3 M3) (g3 : Grow I2 H2 adr2 I3 H3 adr3) (n : Nat) (hn : n < min ds.length es.length) (T : Addr) (hT : H3 T = none) (x y : V) (hx : xs[n]? = some x) (hy : ys[n]? = some y),
      ∃ I4, Stt I4 (upd H3 T (.tup [x, y])) adr3 σ3 E3 M3 ∧ Grow I3 H3 adr3 I4 (upd H3 T (.tup [x, y])) adr3 ∧ Vo I4 adr3 (atZ ds es n) (.ref T) := fun {xs ys I3 H3 adr3 σ3 E3 M3} hr hr' s3 g3 n hn T hT x y hx hy => by
    obtain ⟨x', ex, rx⟩ := hr.get (atO_get (show n < ds.length by omega))
    obtain ⟨y', ey, ry⟩ := hr'.get (atO_get (show n < es.length by omega))
    have e1 : x' = x := Option.some.inj (ex.symm.trans hx)
    have e2 : y' = y := Option.some.inj (ey.symm.trans hy)
    subst e1 e2
    obtain ⟨s4, g4, r4⟩ := s3.tup hT (.cons (rx.mono g3.ex) (.cons (ry.mono g3.ex) .nil))
    exact ⟨_, s4, g4, r4⟩
  rcases hd with ⟨rfl, rfl⟩ | ⟨rfl, rfl⟩
  · cases (show Rep I2 (.tup ds) v from v2) with
    | @tup p1 xs _ hp hr =>
      cases (show Rep I2 (.tup es) w from w2) with
      | @tup p2 ys _ hp' hr' =>
        refine ⟨p1, p2, xs, ys, rfl, .inr ⟨sqt_uniq (s2.ex _ _ hp), sqt_uniq (s2.ex _ _ hp'), q _ I2 H2 adr2 s2 (g1.trans g2) fun I3 H3 adr3 σ3 E3 M3 s3 g3 _ => ?_⟩⟩
        have a1 : SqT C.g.K H3 p1 xs := sqt_uniq (s3.ex _ _ (g3.ex _ _ hp))
        have a2 : SqT C.g.K H3 p2 ys := sqt_uniq (s3.ex _ _ (g3.ex _ _ hp'))
        have l1 := hr.length
        have l2 := hr'.length
        refine ⟨⟨xs, ys, a1, a2, by omega⟩, fun n hn => ?_⟩
        have b1 : xs[n]? = some (xs[n]'(by omega)) := List.getElem?_eq_getElem _
        have b2 : ys[n]? = some (ys[n]'(by omega)) := List.getElem?_eq_getElem _
        refine ⟨⟨xs, ys, _, _, a1, a2, b1, b2⟩, fun z H4 hz => ?_⟩
        obtain ⟨T, x, y, rfl, hT, rfl, f1, f2⟩ := hz
        exact turn hr hr' s3 g3 n hn T hT x y (f1 _ a1) (f2 _ a2)
  · cases (show Rep I2 (.lst ds) v from v2) with
    | @lst p1 xs _ hp hr =>
      cases (show Rep I2 (.lst es) w from w2) with
      | @lst p2 ys _ hp' hr' =>
        refine ⟨p1, p2, xs, ys, rfl, .inl ⟨sql_uniq (s2.ex _ _ hp), sql_uniq (s2.ex _ _ hp'), q _ I2 H2 adr2 s2 (g1.trans g2) fun I3 H3 adr3 σ3 E3 M3 s3 g3 _ => ?_⟩⟩
        have a1 : SqL C.g.K H3 p1 xs := sql_uniq (s3.ex _ _ (g3.ex _ _ hp))
        have a2 : SqL C.g.K H3 p2 ys := sql_uniq (s3.ex _ _ (g3.ex _ _ hp'))
        have l1 := hr.length
        have l2 := hr'.length
        refine ⟨⟨xs, ys, a1, a2, by omega⟩, fun n hn => ?_⟩
        have b1 : xs[n]? = some (xs[n]'(by omega)) := List.getElem?_eq_getElem _
        have b2 : ys[n]? = some (ys[n]'(by omega)) := List.getElem?_eq_getElem _
        refine ⟨⟨xs, ys, _, _, a1, a2, b1, b2⟩, fun z H4 hz => ?_⟩
        obtain ⟨T, x, y, rfl, hT, rfl, f1, f2⟩ := hz
        exact turn hr hr' s3 g3 n hn T hT x y (f1 _ a1) (f2 _ a2)

/-! ### for -/
theorem ST.for {E_ : Nat → List O} {M_ : Nat → Mem} {n m : Nat} {it : Nat → O} {inv : Mem → Prop} (hs : EI C tg iter E M n it M1 inv) (hE : Fg E (E_ 0)) (hM : M_ 0 = M1) (hm : m ≤ n) (hinv : ∀ i, i ≤ m → inv (M_ i))
    (step : ∀ i, i < m → ∃ E1 Ma E2, EG C tg (it i) (E_ i) (M_ i) E1 Ma ∧ Fg E2 (E_ (i + 1)) ∧ (SB C body E1 Ma (.nx E2 (M_ (i + 1))) ∨ SB C body E1 Ma (.ct E2 (M_ (i + 1)))))
    (last : (m = n ∧ r = .nx (E_ n) (M_ n)) ∨ (m < n ∧ ∃ E1 Ma, EG C tg (it m) (E_ m) (M_ m) E1 Ma ∧ ((∃ o M', SB C body E1 Ma (.rt o M') ∧ r = .rt o M') ∨ ∃ E' M', SB C body E1 Ma (.bk E' M') ∧ r = .nx E' M')))
    (hf : ∀ env x, foldedSetIterable iter env x = pure x := by intro _ _; rfl) : ST C (.For tg iter body [] pos) E M r := by
  subst hM
  refine ST.mk (fun X hX => ps_for hX.po hX.calm (ui hX tg iter) (ug hX tg) (ub hX body) (hf X.env)) fun I H adr σ D s q => ?_
  refine hs I H adr σ _ s fun J I1 H1 adr1 s1 g1 hr => ?_
  refine ⟨fun i μ σ' H' => i ≤ m ∧ μ = n - i ∧ ∃ I2 adr2, Stt I2 H' adr2 σ' (E_ i) (M_ i) ∧ Grow I1 H1 adr1 I2 H' adr2, ⟨n, Nat.zero_le _, by omega, I1, adr1, s1.forget hE, Grow.refl⟩, ?_⟩
  rintro i μ σ' H' ⟨hi, rfl, I2, adr2, s2, g2⟩
  obtain ⟨st, go⟩ := hr I2 H' adr2 σ' (E_ i) (M_ i) s2 g2 (hinv i hi)
  by_cases him : i < m
  · obtain ⟨Ea, Ma, Eb, hg, hfg, hb⟩ := step i him
    obtain ⟨g0, gy⟩ := go i (by omega)
    refine .inr ⟨g0, fun σ'' H'' => ∃ I3 adr3, Stt I3 H'' adr3 σ'' (E_ (i + 1)) (M_ (i + 1)) ∧ Grow I1 H1 adr1 I3 H'' adr3, fun σ'' H'' hN => ⟨n - (i + 1), by omega, by omega, rfl, hN⟩, fun x H3 hy => ?_⟩
    obtain ⟨I3, s3, g3, v3⟩ := gy x H3 hy
    refine hg I3 H3 adr2 σ' x _ s3 v3 fun I4 H4 adr4 σ4 s4 g4 => ?_
    rcases hb with hb | hb
    · exact hb I4 H4 adr4 σ4 _ s4 fun I5 H5 adr5 σ5 s5 g5 => ⟨I5, adr5, s5.forget hfg, ((g2.trans g3).trans g4).trans g5⟩
    · exact hb I4 H4 adr4 σ4 _ s4 fun I5 H5 adr5 σ5 s5 g5 => ⟨I5, adr5, s5.forget hfg, ((g2.trans g3).trans g4).trans g5⟩
  · have e : i = m := by omega
    subst e
    rcases last with ⟨hn, hr'⟩ | ⟨hn, Ea, Ma, hg, hb⟩
    · subst hn hr'
      exact .inl ⟨st, q I2 H' adr2 σ' s2 (g1.trans g2)⟩
    · obtain ⟨g0, gy⟩ := go i hn
      refine .inr ⟨g0, fun _ _ => False, fun _ _ h => h.elim, fun x H3 hy => ?_⟩
      obtain ⟨I3, s3, g3, v3⟩ := gy x H3 hy
      refine hg I3 H3 adr2 σ' x _ s3 v3 fun I4 H4 adr4 σ4 s4 g4 => ?_
      rcases hb with ⟨o, M', hb, hr'⟩ | ⟨E', M', hb, hr'⟩
      · subst hr'
        exact hb I4 H4 adr4 σ4 _ s4 fun v I5 H5 adr5 s5 g5 v5 => q v I5 H5 adr5 s5 ((((g1.trans g2).trans g3).trans g4).trans g5) v5
      · subst hr'
        exact hb I4 H4 adr4 σ4 _ s4 fun I5 H5 adr5 σ5 s5 g5 => q I5 H5 adr5 σ5 s5 ((((g1.trans g2).trans g3).trans g4).trans g5)
/-- a loop that goes through, its target one name -/
theorem ST.forN (jx : Nat) {x : Str} {E_ : Nat → List O} {M_ : Nat → Mem} {n : Nat} {it : Nat → O} {inv : Mem → Prop} (hs : EI C (.Name x p) iter E M n it M1 inv) (hE : Fg E (E_ 0)) (hM : M_ 0 = M1) (hinv : ∀ i, i ≤ n → inv (M_ i)) (nd : C.N.Nodup)
    (step : ∀ i, i < n → ∃ E2, Fg E2 (E_ (i + 1)) ∧ SB C body ((E_ i).set jx (it i)) (M_ i) (.nx E2 (M_ (i + 1))))
    (hi : C.N[jx]? = some x := by rfl) (hx : Loc C.sc x := by first | exact Or.inl rfl | exact Or.inr rfl) (hf' : C.fn x = true ∨ C.sc.names.lookup x = some .local := by first | exact .inl rfl | exact .inr rfl) (hf : ∀ env x, foldedSetIterable iter env x = pure x := by intro _ _; rfl) : ST C (.For (.Name x p) iter body [] pos) E M (.nx (E_ n) (M_ n)) :=
  ST.for hs hE hM (Nat.le_refl n) hinv (fun i h => let ⟨E2, a, b⟩ := step i h; ⟨_, _, E2, EG.nm jx nd hi hx hf', a, .inl b⟩) (.inl ⟨rfl, rfl⟩) hf

/-! ### while -/
theorem ST.while {E_ : Nat → List O} {M_ : Nat → Mem} {m : Nat} (hE : Fg E (E_ 0)) (hM : M_ 0 = M) (step : ∀ i, i < m → ∃ M1 E2, ET C c (E_ i) (M_ i) true M1 ∧ Fg E2 (E_ (i + 1)) ∧ SB C body (E_ i) M1 (.nx E2 (M_ (i + 1))))
    (last : ET C c (E_ m) (M_ m) false M') : ST C (.While c body [] pos) E M (.nx (E_ m) M') := by
  subst hM
  refine ST.mk (fun X hX => ps_while hX.po (ut hX c) (ub hX body)) fun I H adr σ D s q => ?_
  refine ⟨fun μ σ' H' => ∃ i, i ≤ m ∧ μ = m - i ∧ ∃ I2 adr2, Stt I2 H' adr2 σ' (E_ i) (M_ i) ∧ Grow I H adr I2 H' adr2, ⟨m, 0, Nat.zero_le _, by omega, I, adr, s.forget hE, Grow.refl⟩, ?_⟩
  rintro μ σ' H' ⟨i, hi, rfl, I2, adr2, s2, g2⟩
  by_cases him : i < m
  · obtain ⟨M1, E2, hc, hfg, hb⟩ := step i him
    refine hc I2 H' adr2 σ' _ s2 fun I3 H3 adr3 s3 g3 => ?_
    refine ⟨fun σ'' H'' => ∃ I4 adr4, Stt I4 H'' adr4 σ'' (E_ (i + 1)) (M_ (i + 1)) ∧ Grow I H adr I4 H'' adr4, fun σ'' H'' hN => ⟨m - (i + 1), by omega, i + 1, by omega, rfl, hN⟩, ?_⟩
    exact hb I3 H3 adr3 σ' _ s3 fun I5 H5 adr5 σ5 s5 g5 => ⟨I5, adr5, s5.forget hfg, (g2.trans g3).trans g5⟩
  · have e : i = m := by omega
    subst e
    refine last I2 H' adr2 σ' _ s2 fun I3 H3 adr3 s3 g3 => ?_
    exact q I3 H3 adr3 σ' s3 (g2.trans g3)
end
end Ab
/-! Ab: comprehensions, methods, calls. -/
namespace Ab
open PySem PySem.Spec PyProof.Rows L2
variable [TabCtx]

def Cc.blk (C : Cc) (scope : Scope) : Cc := { C with sc := relS scope C.sc, fn := fun x => scope.names.lookup x == some .cell, W := W0, cd := none }
theorem cx_blk {C : Cc} {X : Cx} (h : CxIs C X) (s : Shared) (H : Hp) (scope : Scope) (A : Addr) (cl : List (Str × Addr)) (fp : List Addr) : CxIs (C.blk scope) (X.blk s H scope (compEnvC scope cl A X.env) fp) where
  P := h.P
  w := h.w
  K := h.K
  mg := h.mg
  base := h.base
  N := h.N
  sc := by
    show relS scope X.env.scope = relS scope C.sc
    rw [h.sc]
  calm := h.calm
  room := h.room
  cd := fun _ _ z => by cases z
  fr := h.fr
  po := PassesOwn.never
  tk := takes0
  fn := fun x q => q

/-! ### own slots -/
def wipeE (E : List O) : List Nat → List O
  | [] => E
  | v :: vs => (wipeE E vs).set v .no
theorem wipe_get (σ : L2.St) : ∀ (vs : List Nat) (i : Nat), i ∉ vs → (wipe σ vs)[i]? = σ[i]?
  | [], _, _ => rfl
  | v :: vs, i, h => by
    unfold wipe
    rw [List.getElem?_set_ne (fun z => h (by rw [z]; exact List.mem_cons_self))]
    exact wipe_get σ vs i fun z => h (List.mem_cons_of_mem _ z)
theorem wipe_in (σ : L2.St) : ∀ (vs : List Nat) (i : Nat), i ∈ vs → i < σ.length → (wipe σ vs)[i]? = some none
  | [], _, h, _ => by simp at h
  | v :: vs, i, h, hl => by
    unfold wipe
    by_cases e : v = i
    · subst e
      rw [List.getElem?_set_self (by rw [wipe_length]; exact hl)]
    · rw [List.getElem?_set_ne e]
      refine wipe_in σ vs i ?_ hl
      rcases List.mem_cons.mp h with z | z
      · exact absurd z.symm e
      · exact z
theorem wipe_eq {σ σ' : L2.St} {vs : List Nat} (hl : σ'.length = σ.length) (h : ∀ (i : Nat), i ∉ vs → σ'[i]? = σ[i]?) : wipe σ' vs = wipe σ vs := by
  refine List.ext_getElem? fun i => ?_
  by_cases hi : i ∈ vs
  · by_cases hb : i < σ.length
    · rw [wipe_in σ vs i hi hb, wipe_in σ' vs i hi (by rw [hl]; exact hb)]
    · rw [List.getElem?_eq_none (by rw [wipe_length, hl]; exact Nat.le_of_not_lt hb), List.getElem?_eq_none (by rw [wipe_length]; exact Nat.le_of_not_lt hb)]
  · rw [wipe_get _ _ _ hi, wipe_get _ _ _ hi]
    exact h i hi
theorem wipeE_length (E : List O) : ∀ vs : List Nat, (wipeE E vs).length = E.length
  | [] => rfl
  | v :: vs => by unfold wipeE; rw [List.length_set, wipeE_length E vs]
theorem wipeE_get (E : List O) : ∀ (vs : List Nat) (i : Nat) (o : O), (wipeE E vs)[i]? = some o → o = .no ∨ (i ∉ vs ∧ E[i]? = some o)
  | [], _, _, h => .inr ⟨by simp, h⟩
  | v :: vs, i, o, h => by
    unfold wipeE at h
    by_cases e : v = i
    · subst e
      by_cases hb : v < (wipeE E vs).length
      · rw [List.getElem?_set_self hb] at h
        exact .inl (Option.some.inj h).symm
      · rw [List.getElem?_eq_none (by rw [List.length_set]; exact Nat.le_of_not_lt hb)] at h
        cases h
    · rw [List.getElem?_set_ne e] at h
      rcases wipeE_get E vs i o h with z | ⟨z1, z2⟩
      · exact .inl z
      · exact .inr ⟨fun q => (List.mem_cons.mp q).elim (fun q => e q.symm) z1, z2⟩
theorem Stt.wipe {I H : Hp} {adr : List Addr} {σ : L2.St} {E : List O} {M : Mem} (s : Stt I H adr σ E M) (vs : List Nat) : Stt I H adr (wipe σ vs) (wipeE E vs) M :=
  ⟨s.ex, s.sto, by rw [wipeE_length, wipe_length]; exact s.len, fun i o ov h1 h2 => by
    rcases wipeE_get E vs i o h1 with e | ⟨hi, e⟩
    · subst e
      cases ov with
      | none => rfl
      | some v => exact True.intro
    · rw [wipe_get σ vs i hi] at h2
      exact s.slot i o ov e h2⟩

/-- a target that turns the slots vs alone -/
def EGv (C : Cc) (vs : List Nat) (tg : Expr) (o : O) (E : List O) (M : Mem) (E' : List O) (M' : Mem) : Prop :=
  ∀ (I H : Hp) (adr : List Addr) (σ : L2.St) (v : V) (Q : L2.St → Hp → Prop), Stt I H adr σ E M → Vo I adr o v → (∀ I' H' adr' σ', Stt I' H' adr' σ' E' M' → Grow I H adr I' H' adr' → σ'.length = σ.length → (∀ (i : Nat), i ∉ vs → σ'[i]? = σ[i]?) → Q σ' H') → UG C tg v σ H Q
def EGvs (C : Cc) (vs : List Nat) (tgs : List Expr) (os : List O) (E : List O) (M : Mem) (E' : List O) (M' : Mem) : Prop :=
  ∀ (I H : Hp) (adr : List Addr) (σ : L2.St) (xs : List V) (Q : L2.St → Hp → Prop), Stt I H adr σ E M → Vs I adr os xs → (∀ I' H' adr' σ', Stt I' H' adr' σ' E' M' → Grow I H adr I' H' adr' → σ'.length = σ.length → (∀ (i : Nat), i ∉ vs → σ'[i]? = σ[i]?) → Q σ' H') → UGs C tgs xs σ H Q
def UP (C : Cc) (ifs : List Expr) : TT := fun σ H Q => ∃ t : TT, (∀ X, CxIs C X → PTs X ifs t) ∧ t σ H Q
theorem up {C : Cc} {X : Cx} (h : CxIs C X) (ifs : List Expr) : PTs X ifs (UP C ifs) := ⟨fun pins s σ H Q I q => let ⟨_, p, q⟩ := q; (p X h).run pins s σ H Q I q⟩
def EP (C : Cc) (ifs : List Expr) (E : List O) (M : Mem) (b : Bool) (M' : Mem) : Prop := Et (UP C ifs) E M b M'

section
variable {C : Cc} {E E1 E2 E' : List O} {M M1 M2 M3 M' : Mem} {o o1 o2 o3 : O} {os : List O} {e a b c tg iter elt : Expr} {es : List Expr} {pos pos' p : Pos} {d d1 d2 : D} {i j : Int} {k k' : Bool} {r : Out} {body : List Stmt} {vs : List Nat}
theorem EGv.nm (i : Nat) {x : Str} (nd : C.N.Nodup) (hv : i ∈ vs) (hi : C.N[i]? = some x := by rfl) (hx : Loc C.sc x := by first | exact Or.inl rfl | exact Or.inr rfl) (hf : C.fn x = true ∨ C.sc.names.lookup x = some .local := by first | exact .inl rfl | exact .inr rfl) : EGv C vs (.Name x pos) o E M (E.set i o) M :=
  fun I H adr σ v Q s hw q => ⟨gName i, fun X hX => pg_name (by rw [hX.N]; exact nd) (by rw [hX.N]; exact hi) (by rw [hX.sc]; exact hx) (hf.elim (fun z => .inl (hX.fn x z)) (fun z => .inr (by rw [hX.sc]; exact z))),
    q I H adr _ (s.set hw) Grow.refl (List.length_set) fun j hj => List.getElem?_set_ne fun z => hj (by rw [← z]; exact hv)⟩
theorem EGvs.nil : EGvs C vs [] [] E M E M := fun I H adr σ xs Q s hv q => by
  cases hv
  exact ⟨gNil, fun _ _ => pgs_nil, rfl, q I H adr σ s Grow.refl rfl fun _ _ => rfl⟩
theorem EGvs.cons (h : EGv C vs a o E M E1 M1) (hr : EGvs C vs es os E1 M1 E' M') (hs : ∀ env, (assignEach (a :: es) env).map (·.2) = assign a env :: (assignEach es env).map (·.2) := by intro _; rfl) : EGvs C vs (a :: es) (o :: os) E M E' M' :=
  fun I H adr σ xs Q s hv q => by
    cases hv with
    | @cons _ v _ xs hv hr' =>
      refine ⟨gCons (UG C a) (UGs C es), fun X hX => pgs_cons (ug hX a) (ugs hX es) (hs X.env), v, xs, rfl, ?_⟩
      exact h I H adr σ v _ s hv fun I1 H1 adr1 σ1 s1 g1 l1 f1 => hr I1 H1 adr1 σ1 xs Q s1 (Vs.mono g1 hr') fun I2 H2 adr2 σ2 s2 g2 l2 f2 => q I2 H2 adr2 σ2 s2 (g1.trans g2) (l2.trans l1) fun i hi => (f2 i hi).trans (f1 i hi)
theorem EGv.tup {ds : List D} {kk : Nat} (h : EGvs C vs es (ds.map .dat) E M E' M') (hn : ∀ env, (assignEach es env).length = ds.length := by intro _; rfl) (hst : ∀ env, (assignEach es env).findIdx? (·.1) = none := by intro _; rfl) : EGv C vs (.Tuple es kk pos) (.dat (.tup ds)) E M E' M' :=
  fun I H adr σ v Q s hv q => by
    cases (show Rep I (.tup ds) v from hv) with
    | @tup p xs _ hp hr =>
      refine ⟨gTup C.g.K ds.length (UGs C es), fun X hX => by
        have := pg_tup (pos := pos) (k := kk) hX.calm (ugs hX es) (hn X.env) (hst X.env)
        rw [hX.K] at this
        exact this, p, xs, rfl, .inl (.inl (s.ex _ _ hp)), hr.length.symm, ?_⟩
      exact h I H adr σ xs Q s (Vs.reps hr) q
theorem EP.nil : EP C [] E M true M := fun I H adr σ Q s q => ⟨tYes, fun _ _ => pts_nil, q I H adr s Grow.refl⟩
theorem EP.one (h : ET C c E M k M') : EP C [c] E M k M' := fun I H adr σ Q s q => ⟨UT C c, fun X hX => pts_one (ut hX c), h I H adr σ Q s q⟩

/-! ### comprehensions -/
structure LC (C : Cc) (elt tg iter : Expr) (ifs : List Expr) (scope : Scope) (own : List (Str × Nat)) (E : List O) (M : Mem) (o : O) (M' : Mem) : Prop where
  ok : blkC C.N C.sc scope own = true
  nd : C.N.Nodup
  hf : ∀ env x, foldedSetIterable iter env x = pure x
  run : Ev (tLc (UI C tg iter) (UG (C.blk scope) tg) (UP (C.blk scope) ifs) (UE (C.blk scope) elt) (own.map (·.2))) E M o M'
theorem LC.ev {scope : Scope} {own : List (Str × Nat)} {ifs : List Expr} (h : LC C elt tg iter ifs scope own E M o M') : EV C (.ListComp elt [⟨tg, iter, ifs, 0⟩] scope pos) E M o M' :=
  EV.mk (fun X hX => pe_lc hX.calm (by rw [hX.N]; exact h.nd) (ui hX tg iter) (by rw [hX.N, hX.sc]; exact blkOk_by h.ok) (fun s H A cl fp => ug (cx_blk hX s H scope A cl fp) tg) (fun s H A cl fp => up (cx_blk hX s H scope A cl fp) ifs) (fun s H A cl fp => ue (cx_blk hX s H scope A cl fp) elt) (h.hf X.env)) h.run
/-- a name that takes it -/
theorem LC.set (i : Nat) {scope : Scope} {own : List (Str × Nat)} {ifs : List Expr} {y : Str} {py spos : Pos} (h : LC C elt tg iter ifs scope own E M o M') (hi : C.N[i]? = some y := by rfl) (hl : C.sc.names.lookup y = some .local := by rfl)
    (hsw : ∀ env : Env, env.scope = C.sc → swapsWith (.ListComp elt [⟨tg, iter, ifs, 0⟩] scope pos) (some (.Name y py)) spos.line env = pure true) : ST C (.Assign [.Name y py] (.ListComp elt [⟨tg, iter, ifs, 0⟩] scope pos) spos) E M (.nx (E.set i o) M') :=
  ST.mk (fun X hX => ps_setLc hX.calm (by rw [hX.N]; exact h.nd) (by rw [hX.N]; exact hi) (by rw [hX.sc]; exact hl) (hsw X.env hX.sc) (ui hX tg iter) (by rw [hX.N, hX.sc]; exact blkOk_by h.ok) (fun s H A cl fp => ug (cx_blk hX s H scope A cl fp) tg) (fun s H A cl fp => up (cx_blk hX s H scope A cl fp) ifs) (fun s H A cl fp => ue (cx_blk hX s H scope A cl fp) elt) (h.hf X.env))
    fun I H adr σ D s q => h.run I H adr σ _ s fun v I1 H1 adr1 s1 g1 v1 => q I1 H1 adr1 _ (s1.set v1) g1
theorem LC.froz {scope : Scope} {own : List (Str × Nat)} {ifs : List Expr} {n : Nat} {ds : List D} (h : LC C elt tg iter ifs scope own E M (.adr n) (M' ++ [some (ds.map .dat)])) (hfr : ∀ {t : TE}, Ev t E M (.adr n) (M' ++ [some (ds.map .dat)]) → Ev t E M (.dat (.lst ds)) M') : LC C elt tg iter ifs scope own E M (.dat (.lst ds)) M' := ⟨h.ok, h.nd, h.hf, hfr h.run⟩
theorem LC.gen {scope : Scope} {own : List (Str × Nat)} {ifs : List Expr} {n : Nat} {it : Nat → O} {inv : Mem → Prop} {A : Nat → Mem} {acc : Nat → List O} (ok : blkC C.N C.sc scope own = true) (nd : C.N.Nodup) (hs : EI C tg iter E M n it M1 inv)
    (hA : A 0 = M1 ++ [some []]) (ha : acc 0 = []) (hinv : ∀ i, i ≤ n → inv (A i))
    (step : ∀ i, i < n → ∃ Ex Ma b Mb, EGv (C.blk scope) (own.map (·.2)) tg (it i) (wipeE E (own.map (·.2))) (A i) Ex Ma ∧ EP (C.blk scope) ifs Ex Ma b Mb ∧
      ((b = true ∧ ∃ o Mc, EV (C.blk scope) elt Ex Mb o Mc ∧ Mc[M1.length]? = some (some (acc i)) ∧ (acc i).length < 100000 ∧ A (i + 1) = Mc.set M1.length (some (acc i ++ [o])) ∧ acc (i + 1) = acc i ++ [o]) ∨
       (b = false ∧ A (i + 1) = Mb ∧ acc (i + 1) = acc i)))
    (hf : ∀ env x, foldedSetIterable iter env x = pure x := by intro _ _; rfl) : LC C elt tg iter ifs scope own E M (.adr M1.length) (A n) := by
  refine ⟨ok, nd, hf, fun I H adr σ Q s q => ?_⟩
  · refine hs I H adr σ _ s fun J I1 H1 adr1 s1 g1 hr Dl hD => ?_
    obtain ⟨s2, g2, atD⟩ := s1.cel hD (os := []) .nil
    rw [← hA] at s2
    refine ⟨fun i μ H' => i ≤ n ∧ μ = n - i ∧ ∃ I3 adr3, Stt I3 H' adr3 σ E (A i) ∧ Grow I1 (upd H1 Dl (.lst [])) (adr1 ++ [Dl]) I3 H' adr3, ⟨n, Nat.zero_le _, by omega, I1, _, s2, Grow.refl⟩, ?_⟩
    rintro i μ H3 ⟨hi, rfl, I3, adr3, s3, g3⟩
    obtain ⟨st, go⟩ := hr I3 H3 adr3 σ E (A i) s3 (g2.trans g3) (hinv i hi)
    by_cases him : i < n
    · obtain ⟨Ea, Ma, b, Mb, hg, hp, hb⟩ := step i him
      obtain ⟨g0, gy⟩ := go i him
      refine .inr ⟨g0, fun H'' => ∃ I4 adr4, Stt I4 H'' adr4 σ E (A (i + 1)) ∧ Grow I1 (upd H1 Dl (.lst [])) (adr1 ++ [Dl]) I4 H'' adr4, fun H'' hN => ⟨n - (i + 1), by omega, by omega, rfl, hN⟩, fun x H4 hy => ?_⟩
      obtain ⟨I4, s4, g4, v4⟩ := gy x H4 hy
      refine hg I4 H4 adr3 _ x _ (s4.wipe _) v4 fun I5 H5 adr5 σ5 s5 g5 l5 f5 => ⟨?_, ?_⟩
      · rw [wipe_eq l5 f5]
        exact wipe_eq (wipe_length _ _) fun i hi => wipe_get _ _ _ hi
      · refine hp I5 H5 adr5 σ5 _ s5 fun I6 H6 adr6 s6 g6 => ?_
        rcases hb with ⟨rfl, o, Mc, he, hc, hz, hA1, ha1⟩ | ⟨rfl, hA1, ha1⟩
        · rw [if_pos rfl]
          refine he I6 H6 adr6 σ5 _ s6 fun y I7 H7 adr7 s7 g7 y7 => ?_
          have gAll := (((g3.trans g4).trans g5).trans g6).trans g7
          have hD7 : adr7[M1.length]? = some Dl := gAll.get atD
          obtain ⟨_, xs, hx1, hx2⟩ := s7.sto.cell M1.length Dl (acc i) hD7 hc
          have hlen := hx2.length
          refine ⟨xs, hx1, by rw [← hlen]; exact sz_lt hz, ?_⟩
          obtain ⟨s8, g8⟩ := s7.wri hD7 hc (Vs.app hx2 (.cons y7 .nil))
          rw [← hA1] at s8
          exact ⟨I7, adr7, s3.mono ((((g4.trans g5).trans g6).trans g7).trans g8) s8.ex s8.sto, gAll.trans g8⟩
        · rw [if_neg Bool.false_ne_true]
          have gAll := ((g3.trans g4).trans g5).trans g6
          rw [← hA1] at s6
          exact ⟨I6, adr6, s3.mono ((g4.trans g5).trans g6) s6.ex s6.sto, gAll⟩
    · have e : i = n := by omega
      subst e
      exact .inl ⟨st, q _ I3 H3 adr3 s3 ((g1.trans g2).trans g3) ⟨Dl, g3.get atD, rfl⟩⟩

/-- no cell's content leans on newer cells -/
def OkM (M M' : Mem) : Prop := ∀ (k : Nat) (os : List O), M'[k]? = some (some os) → M[k]? = some (some os) ∨ ∃ ds : List D, os = ds.map .dat
theorem OkM.refl : OkM M M := fun _ _ h => .inl h
theorem OkM.nil : OkM M [] := fun _ _ h => by simp at h
theorem OkM.dat {c : Option (List O)} {ds : List D} (h : OkM M M') : OkM (c :: M) (some (ds.map .dat) :: M') := fun k os q => by
  cases k with
  | zero => exact .inr ⟨ds, (Option.some.inj (Option.some.inj q)).symm⟩
  | succ k => exact h k os q
theorem OkM.same {c : Option (List O)} (h : OkM M M') : OkM (c :: M) (c :: M') := fun k os q => by
  cases k with
  | zero => exact .inl q
  | succ k => exact h k os q
theorem low_vs {I : Hp} {adr adr' : List Addr} {n : Nat} (h : ∀ (k : Nat) (a : Addr), adr[k]? = some a → adr'[k]? = some a) : ∀ {os : List O} {xs : List V}, Vs I adr os xs → ∃ vs : List V, True
  | _, _, _ => ⟨[], True.intro⟩
/-- contents that are valid ahead of a growth lean on no newer cell -/
theorem vo_low {I I' : Hp} {adr adr' : List Addr} {v w : V} : ∀ {o : O}, Vo I adr o v → Vo I' adr' o w → (∀ (k : Nat) (a : Addr), adr[k]? = some a → adr'[k]? = some a) → Vo I' adr o w
  | .no, _, _, _ => True.intro
  | .dat _, _, h, _ => h
  | .scr _ _, _, h, _ => h
  | .obj _ fs, h, h', f => by
    obtain ⟨p, dx, gs, h1, h2, h3⟩ := h
    obtain ⟨p', dx', gs', q1, q2, q3⟩ := h'
    refine ⟨p', dx', gs', q1, q2, prImp q3 fun x hx g' z => ⟨z.1, ?_⟩⟩
    obtain ⟨g0, _, a0, e0, _⟩ := prLeft h3 x hx
    obtain ⟨a, e1, e2⟩ := z.2
    have e3 := f _ _ e0
    rw [e1] at e3
    cases e3
    exact ⟨_, e0, e2⟩
  | .adr k, h, h', f => by
    obtain ⟨a, h1, _⟩ := h
    obtain ⟨a', h2, h3⟩ := h'
    rw [f k a h1] at h2
    cases h2
    exact ⟨a, h1, h3⟩
theorem vs_low {I I' : Hp} {adr adr' : List Addr} (f : ∀ (k : Nat) (a : Addr), adr[k]? = some a → adr'[k]? = some a) : ∀ {os : List O} {xs ys : List V}, Vs I adr os xs → Vs I' adr' os ys → Vs I' adr os ys
  | _, _, _, .nil, .nil => .nil
  | _, _, _, .cons h r, .cons h' r' => .cons (vo_low h h' f) (vs_low f r r')
theorem Ev.froz {t : TE} {n : Nat} {ds : List D} (h : Ev t E M (.adr n) (M' ++ [some (ds.map .dat)])) (hn : n = M'.length) (hl : M.length ≤ M'.length) (ok : OkM M M') : Ev t E M (.dat (.lst ds)) M' := fun I H adr σ Q s q => by
  refine h I H adr σ Q s fun v I1 H1 adr1 s1 g1 v1 => ?_
  obtain ⟨p, hp, rfl⟩ := v1
  obtain ⟨nw, rfl, fr⟩ := g1.new
  have hlen := s1.sto.len
  rw [List.length_append, List.length_append, List.length_singleton] at hlen
  have hl0 := s.sto.len
  have hcell : (M' ++ [some (ds.map O.dat)])[n]? = some (some (ds.map .dat)) := by
    rw [hn, List.getElem?_append_right (Nat.le_refl _), Nat.sub_self]
    rfl
  obtain ⟨hi, xs, hx1, hx2⟩ := s1.sto.cell n p _ hp hcell
  have hne : nw ≠ [] := fun z => by
    subst z
    simp at hlen
    omega
  -- the last address is p
  have hnw : nw = nw.dropLast ++ [p] := by
    have e1 : (adr ++ nw)[n]? = nw[nw.length - 1]? := by
      rw [List.getElem?_append_right (by omega)]
      congr 1
      omega
    rw [hp] at e1
    have e2 : nw.getLast hne = p := by
      rw [List.getLast_eq_getElem]
      have := (List.getElem?_eq_some_iff.mp e1.symm).2
      exact this
    rw [← e2]
    exact (List.dropLast_concat_getLast hne).symm
  have hdl : (adr ++ nw) = (adr ++ nw.dropLast) ++ [p] := by
    rw [List.append_assoc, ← hnw]
  have hlen2 : (adr ++ nw.dropLast).length = M'.length := by
    rw [List.length_append, List.length_dropLast]
    have : nw.length ≠ 0 := fun z => hne (List.eq_nil_of_length_eq_zero z)
    omega
  have sub : ∀ (k : Nat) (a : Addr), (adr ++ nw.dropLast)[k]? = some a → (adr ++ nw)[k]? = some a := fun k a hk => by
    rw [hdl, List.getElem?_append_left (List.getElem?_eq_some_iff.mp hk).1]
    exact hk
  have sub0 : ∀ (k : Nat) (a : Addr), adr[k]? = some a → (adr ++ nw)[k]? = some a := fun k a hk => by
    rw [List.getElem?_append_left (List.getElem?_eq_some_iff.mp hk).1]
    exact hk
  have ndp : p ∉ adr ++ nw.dropLast := by
    have nd1 := s1.sto.nd
    rw [hdl, List.nodup_append] at nd1
    intro z
    exact nd1.2.2 p z p (by simp) rfl
  have pin : p ∈ nw := by
    rw [hnw]
    simp
  have ex1 : Ex I1 (upd I1 p (.lst xs)) := Ex.new hi
  have ex2 : Ex (upd I1 p (.lst xs)) H1 := fun a u z => by
    by_cases e : a = p
    · subst e
      rw [upd_same] at z
      cases z
      exact hx1
    · rw [upd_ne e] at z
      exact s1.ex a u z
  have g2 : Grow I H adr (upd I1 p (.lst xs)) H1 (adr ++ nw.dropLast) := by
    refine ⟨g1.ex.trans ex1, ⟨nw.dropLast, rfl, fun a ha => fr a ((List.dropLast_sublist nw).subset ha)⟩, g1.keep, g1.dom, fun a u h1 n h2 h3 => ?_, g1.code⟩
    have : a ≠ p := fun z => by
      rw [z] at h1
      exact fr p pin u h1 n
    rw [upd_ne this]
    exact g1.out a u h1 n h2 h3
  have sto2 : Sto (upd I1 p (.lst xs)) H1 (adr ++ nw.dropLast) M' := by
    refine ⟨hlen2, ?_, fun k a os h1 h2 => ?_, fun k a h1 => s1.sto.dom k a (sub k a h1), s1.sto.amb.same fun b u h => ?_⟩
    · have nd1 := s1.sto.nd
      rw [hdl, List.nodup_append] at nd1
      exact nd1.1
    · have hk : k < M'.length := (List.getElem?_eq_some_iff.mp h2).1
      have h3 : (M' ++ [some (ds.map O.dat)])[k]? = some (some os) := by
        rw [List.getElem?_append_left hk]
        exact h2
      obtain ⟨c1, ys, c2, c3⟩ := s1.sto.cell k a os (sub k a h1) h3
      have na : a ≠ p := fun z => ndp (by rw [← z]; exact List.mem_of_getElem? h1)
      refine ⟨by rw [upd_ne na]; exact c1, ys, c2, Vs.ext ex1 ?_⟩
      rcases ok k os h2 with hm | ⟨es, rfl⟩
      · have hk2 : k < adr.length := by
          rw [hl0]
          exact (List.getElem?_eq_some_iff.mp hm).1
        obtain ⟨_, zs, _, z3⟩ := s.sto.cell k adr[k] os (List.getElem?_eq_getElem hk2) hm
        exact (vs_low sub0 z3 c3).more
      · exact Vs.reps c3.to
    · by_cases e : b = p
      · subst e
        rw [upd_same] at h
        cases h
        exact NT.lst
      · rw [upd_ne e] at h
        exact s1.sto.amb.nt b u h
  exact q _ _ H1 _ (s.mono g2 ex2 sto2) g2 (.lst upd_same (hx2.to.mono ex1))
end
end Ab
/-! Ab: the forms one uses. -/
namespace Ab
open PySem PySem.Spec PyProof.Rows L2
variable [TabCtx]
section
variable {C : Cc} {E E1 E2 E' : List O} {M M1 M2 M3 M' : Mem} {o o1 o2 o3 : O} {os : List O} {e a b c tg iter elt : Expr} {es : List Expr} {pos pos' p apos : Pos} {d d1 d2 : D} {i j : Int} {k k' : Bool} {r : Out} {body : List Stmt} {vs : List Nat} {scope : Scope} {own : List (Str × Nat)} {ifs : List Expr} {x : Str}

/-! ### comprehensions -/
theorem getE_append {α : Type} {l : List α} {x : α} : (l ++ [x])[l.length]? = some x := by
  rw [List.getElem?_append_right (Nat.le_refl _), Nat.sub_self]
  rfl
theorem set_append {α : Type} {l : List α} {x y : α} : (l ++ [x]).set l.length y = l ++ [y] := by
  rw [List.set_append_right _ _ (Nat.le_refl _), Nat.sub_self]
  rfl
/-- pure elements, the list a cell -/
theorem LC.lPC {n : Nat} {it : Nat → O} {inv : Mem → Prop} {v : Nat → D} {f : Nat → Bool} (ok : blkC C.N C.sc scope own = true) (nd : C.N.Nodup) (hs : EI C tg iter E M n it M1 inv) (hinv : ∀ c, inv (M1 ++ [c])) (hn : n < 100000)
    (step : ∀ i, i < n → ∃ Ex, (∀ M, EGv (C.blk scope) (own.map (·.2)) tg (it i) (wipeE E (own.map (·.2))) M Ex M) ∧ (∀ M, EP (C.blk scope) ifs Ex M (f i) M) ∧ (f i = true → ∀ M, EV (C.blk scope) elt Ex M (.dat (v i)) M))
    (hf : ∀ env x, foldedSetIterable iter env x = pure x := by intro _ _; rfl) : LC C elt tg iter ifs scope own E M (.adr M1.length) (M1 ++ [some ((((List.range n).filter f).map v).map .dat)]) := by
  refine LC.gen (A := fun i => M1 ++ [some ((((List.range i).filter f).map v).map .dat)]) (acc := fun i => (((List.range i).filter f).map v).map .dat) ok nd hs rfl rfl (fun i _ => hinv _) (fun i hi => ?_) hf
  obtain ⟨Ex, h1, h2, h3⟩ := step i hi
  refine ⟨Ex, _, f i, _, h1 _, h2 _, ?_⟩
  cases hb : f i with
  | true =>
    refine .inl ⟨rfl, .dat (v i), _, h3 hb _, getE_append, ?_, ?_, ?_⟩
    · rw [List.length_map, List.length_map]
      have := List.length_filter_le f (List.range i)
      rw [List.length_range] at this
      omega
    · show M1 ++ [some ((((List.range (i + 1)).filter f).map v).map O.dat)] = _
      rw [set_append, List.range_succ, List.filter_append, List.map_append, List.map_append, List.filter_cons, if_pos hb]
      rfl
    · show (((List.range (i + 1)).filter f).map v).map O.dat = _
      rw [List.range_succ, List.filter_append, List.map_append, List.map_append, List.filter_cons, if_pos hb]
      rfl
  | false =>
    have e : (((List.range (i + 1)).filter f).map v).map O.dat = (((List.range i).filter f).map v).map O.dat := by
      rw [List.range_succ, List.filter_append, List.map_append, List.map_append, List.filter_cons, if_neg (by rw [hb]; decide)]
      exact List.append_nil _
    refine .inr ⟨rfl, ?_, ?_⟩
    · show M1 ++ [some ((((List.range (i + 1)).filter f).map v).map O.dat)] = _
      rw [e]
    · exact e
theorem LC.lPF {n : Nat} {it : Nat → O} {inv : Mem → Prop} {v : Nat → D} {f : Nat → Bool} (ok : blkC C.N C.sc scope own = true) (nd : C.N.Nodup) (hs : EI C tg iter E M n it M1 inv) (hinv : ∀ c, inv (M1 ++ [c])) (hn : n < 100000) (hl : M.length ≤ M1.length) (hok : OkM M M1)
    (step : ∀ i, i < n → ∃ Ex, (∀ M, EGv (C.blk scope) (own.map (·.2)) tg (it i) (wipeE E (own.map (·.2))) M Ex M) ∧ (∀ M, EP (C.blk scope) ifs Ex M (f i) M) ∧ (f i = true → ∀ M, EV (C.blk scope) elt Ex M (.dat (v i)) M))
    (hf : ∀ env x, foldedSetIterable iter env x = pure x := by intro _ _; rfl) : LC C elt tg iter ifs scope own E M (.dat (.lst (((List.range n).filter f).map v))) M1 :=
  LC.froz (LC.lPC ok nd hs hinv hn step hf) fun h => Ev.froz h rfl hl hok
/-- elements that turn cells -/
theorem LC.lSC {n : Nat} {it : Nat → O} {inv : Mem → Prop} {v : Nat → D} {M_ : Nat → Mem} (ok : blkC C.N C.sc scope own = true) (nd : C.N.Nodup) (hs : EI C tg iter E M n it M1 inv) (h0 : M_ 0 = M1) (hlen : ∀ i, i ≤ n → (M_ i).length = M1.length) (hinv : ∀ i, i ≤ n → ∀ c, inv (M_ i ++ [c])) (hn : n < 100000)
    (step : ∀ i, i < n → ∃ Ex, (∀ M, EGv (C.blk scope) (own.map (·.2)) tg (it i) (wipeE E (own.map (·.2))) M Ex M) ∧ ∀ c, EV (C.blk scope) elt Ex (M_ i ++ [c]) (.dat (v i)) (M_ (i + 1) ++ [c]))
    (hf : ∀ env x, foldedSetIterable iter env x = pure x := by intro _ _; rfl) : LC C elt tg iter [] scope own E M (.adr M1.length) (M_ n ++ [some (((List.range n).map v).map .dat)]) := by
  refine LC.gen (A := fun i => M_ i ++ [some (((List.range i).map v).map .dat)]) (acc := fun i => ((List.range i).map v).map .dat) ok nd hs (by rw [h0]; rfl) rfl (fun i hi => hinv i hi _) (fun i hi => ?_) hf
  obtain ⟨Ex, h1, h3⟩ := step i hi
  refine ⟨Ex, _, true, _, h1 _, EP.nil, .inl ⟨rfl, .dat (v i), _, h3 _, ?_, ?_, ?_, ?_⟩⟩
  · rw [← hlen (i + 1) hi]
    exact getE_append
  · rw [List.length_map, List.length_map, List.length_range]
    omega
  · show M_ (i + 1) ++ [some (((List.range (i + 1)).map v).map O.dat)] = _
    rw [← hlen (i + 1) hi, set_append, List.range_succ, List.map_append, List.map_append]
    rfl
  · show ((List.range (i + 1)).map v).map O.dat = _
    rw [List.range_succ, List.map_append, List.map_append]
    rfl
theorem LC.lS {n : Nat} {it : Nat → O} {inv : Mem → Prop} {v : Nat → D} {M_ : Nat → Mem} (ok : blkC C.N C.sc scope own = true) (nd : C.N.Nodup) (hs : EI C tg iter E M n it M1 inv) (h0 : M_ 0 = M1) (hlen : ∀ i, i ≤ n → (M_ i).length = M1.length) (hinv : ∀ i, i ≤ n → ∀ c, inv (M_ i ++ [c])) (hn : n < 100000) (hl : M.length ≤ M1.length) (hok : OkM M (M_ n))
    (step : ∀ i, i < n → ∃ Ex, (∀ M, EGv (C.blk scope) (own.map (·.2)) tg (it i) (wipeE E (own.map (·.2))) M Ex M) ∧ ∀ c, EV (C.blk scope) elt Ex (M_ i ++ [c]) (.dat (v i)) (M_ (i + 1) ++ [c]))
    (hf : ∀ env x, foldedSetIterable iter env x = pure x := by intro _ _; rfl) : LC C elt tg iter [] scope own E M (.dat (.lst ((List.range n).map v))) (M_ n) :=
  LC.froz (LC.lSC ok nd hs h0 hlen hinv hn step hf) fun h => Ev.froz h (hlen n (Nat.le_refl n)).symm (by rw [hlen n (Nat.le_refl n)]; exact hl) hok
theorem range_getD {α : Type} (d0 : α) : ∀ (xs : List α), (List.range xs.length).map (fun i => xs.getD i d0) = xs := fun xs => by
  refine List.ext_getElem? fun i => ?_
  rw [List.getElem?_map]
  by_cases hi : i < xs.length
  · rw [List.getElem?_range hi, List.getElem?_eq_getElem hi]
    show some (xs.getD i d0) = _
    rw [List.getD_eq_getElem?_getD, List.getElem?_eq_getElem hi]
    rfl
  · rw [List.getElem?_eq_none (by rw [List.length_range]; exact Nat.le_of_not_lt hi), List.getElem?_eq_none (Nat.le_of_not_lt hi)]
    rfl
theorem atO_map {α : Type} {f : α → D} {xs : List α} {i : Nat} (h : i < xs.length) : atO (xs.map f) i = .dat (f xs[i]) := by
  unfold atO
  rw [List.getD_eq_getElem?_getD, List.getElem?_map, List.getElem?_eq_getElem h]
  rfl
/-- [elt for x in xs], xs a list or tuple of the f of some α -/
theorem LC.lM {α : Type} (jx : Nat) {xs : List α} {f g : α → D} (ok : blkC C.N C.sc scope own = true) (nd : C.N.Nodup) (ho : own.map (·.2) = [jx]) (h : EV C iter E M (.dat d) M1) (hd : seqD d = some (xs.map f)) (hl : M.length ≤ M1.length) (hok : OkM M M1) (hz : xs.length < 100000)
    (step : ∀ y ∈ xs, ∀ M, EV (C.blk scope) elt ((wipeE E [jx]).set jx (.dat (f y))) M (.dat (g y)) M) (hi : C.N[jx]? = some x := by rfl) (hx : Loc (C.blk scope).sc x := by first | exact Or.inl rfl | exact Or.inr rfl) (hf' : (C.blk scope).fn x = true ∨ (C.blk scope).sc.names.lookup x = some .local := by first | exact .inl rfl | exact .inr rfl)
    (hf : ∀ env x, foldedSetIterable iter env x = pure x := by intro _ _; rfl) : LC C elt (.Name x p) iter [] scope own E M (.dat (.lst (xs.map g))) M1 := by
  have hlen : (xs.map f).length = xs.length := List.length_map _
  have key := LC.lPF (tg := .Name x p) (elt := elt) (ifs := []) (scope := scope) (own := own) (n := (xs.map f).length) (v := fun i => (xs.map g).getD i .non) (f := fun _ => true) ok nd (EI.seq h hd) (fun _ => True.intro) (by omega) hl hok (fun i hi' => by
    rw [hlen] at hi'
    refine ⟨_, fun M => EGv.nm jx nd (by rw [ho]; simp) hi hx hf', fun M => EP.nil, fun _ M => ?_⟩
    rw [ho, atO_map hi']
    have e : (xs.map g).getD i .non = g xs[i] := by
      rw [List.getD_eq_getElem?_getD, List.getElem?_map, List.getElem?_eq_getElem hi']
      rfl
    rw [e]
    exact step _ (List.getElem_mem hi') M) hf
  have e2 : ((List.range (xs.map f).length).filter fun _ => true).map (fun i => (xs.map g).getD i D.non) = xs.map g := by
    rw [List.filter_eq_self.mpr (fun _ _ => rfl), hlen, ← List.length_map g]
    exact range_getD _ _
  rw [e2] at key
  exact key
theorem filt_getD {α β : Type} (d0 : β) (t : α → Bool) (g : α → β) : ∀ xs : List α, ((List.range xs.length).filter fun i => (xs.map t).getD i false).map (fun i => (xs.map g).getD i d0) = (xs.filter t).map g
  | [] => rfl
  | y :: r => by
    have ih := filt_getD d0 t g r
    have e3 : ((fun i => ((y :: r).map t).getD i false) ∘ Nat.succ) = fun i => (r.map t).getD i false := by
      funext i
      simp [List.getD_eq_getElem?_getD]
    have e4 : ((fun i => ((y :: r).map g).getD i d0) ∘ Nat.succ) = fun i => (r.map g).getD i d0 := by
      funext i
      simp [List.getD_eq_getElem?_getD]
    rw [List.length_cons, List.range_succ_eq_map, List.filter_cons, List.filter_map, e3]
    have e5 : ((y :: r).map t).getD 0 false = t y := by simp [List.getD_eq_getElem?_getD]
    have e6 : ((y :: r).map g).getD 0 d0 = g y := by simp [List.getD_eq_getElem?_getD]
    rw [e5, List.filter_cons]
    by_cases hy : t y = true
    · rw [if_pos hy, if_pos hy]
      simp only [List.map_cons, List.map_map]
      rw [show (fun i => (List.map g (y :: r)).getD i d0) = fun i => (List.map g (y :: r)).getD i d0 from rfl] at *
      rw [← List.map_cons (f := g), e6, e4, ih]
    · rw [if_neg hy, if_neg hy, List.map_map, e4, ih]
/-- .. with a test -/
theorem LC.lMF {α : Type} (jx : Nat) {xs : List α} {f g : α → D} {t : α → Bool} (ok : blkC C.N C.sc scope own = true) (nd : C.N.Nodup) (ho : own.map (·.2) = [jx]) (h : EV C iter E M (.dat d) M1) (hd : seqD d = some (xs.map f)) (hl : M.length ≤ M1.length) (hok : OkM M M1) (hz : xs.length < 100000)
    (ht : ∀ y ∈ xs, ∀ M, ET (C.blk scope) c ((wipeE E [jx]).set jx (.dat (f y))) M (t y) M)
    (step : ∀ y ∈ xs, t y = true → ∀ M, EV (C.blk scope) elt ((wipeE E [jx]).set jx (.dat (f y))) M (.dat (g y)) M) (hi : C.N[jx]? = some x := by rfl) (hx : Loc (C.blk scope).sc x := by first | exact Or.inl rfl | exact Or.inr rfl) (hf' : (C.blk scope).fn x = true ∨ (C.blk scope).sc.names.lookup x = some .local := by first | exact .inl rfl | exact .inr rfl)
    (hf : ∀ env x, foldedSetIterable iter env x = pure x := by intro _ _; rfl) : LC C elt (.Name x p) iter [c] scope own E M (.dat (.lst ((xs.filter t).map g))) M1 := by
  have hlen : (xs.map f).length = xs.length := List.length_map _
  have key := LC.lPF (tg := .Name x p) (elt := elt) (ifs := [c]) (scope := scope) (own := own) (n := (xs.map f).length) (v := fun i => (xs.map g).getD i .non) (f := fun i => (xs.map t).getD i false) ok nd (EI.seq h hd) (fun _ => True.intro) (by omega) hl hok (fun i hi' => by
    rw [hlen] at hi'
    have e0 : (xs.map t).getD i false = t xs[i] := by
      rw [List.getD_eq_getElem?_getD, List.getElem?_map, List.getElem?_eq_getElem hi']
      rfl
    refine ⟨_, fun M => EGv.nm jx nd (by rw [ho]; simp) hi hx hf', fun M => ?_, fun hb M => ?_⟩
    · rw [ho, atO_map hi', e0]
      exact EP.one (ht _ (List.getElem_mem hi') M)
    · rw [ho, atO_map hi']
      have e : (xs.map g).getD i .non = g xs[i] := by
        rw [List.getD_eq_getElem?_getD, List.getElem?_map, List.getElem?_eq_getElem hi']
        rfl
      rw [e]
      rw [e0] at hb
      exact step _ (List.getElem_mem hi') hb M) hf
  have e2 : ((List.range (xs.map f).length).filter fun i => (xs.map t).getD i false).map (fun i => (xs.map g).getD i D.non) = (xs.filter t).map g := by
    rw [hlen]
    exact filt_getD _ _ _ _
  rw [e2] at key
  exact key
theorem atI0_eq {n : Nat} : atI0 0 n = .dat (.int (n : Int)) := by
  unfold atI0
  rw [Int.zero_add]
/-- [elt for x in range(j)] -/
theorem LC.lR (jx : Nat) {y : Str} {q : Pos} {qs : Pos} {g : Nat → D} (ok : blkC C.N C.sc scope own = true) (nd : C.N.Nodup) (ho : own.map (·.2) = [jx]) (h : EV C a E M (.dat (.int j)) M1) (hm : Bt C.g "range") (hl : M.length ≤ M1.length) (hok : OkM M M1) (hz : j < 100000 ∧ -100000 < j)
    (step : ∀ i, i < j.toNat → ∀ M, EV (C.blk scope) elt ((wipeE E [jx]).set jx (.dat (.int (i : Int)))) M (.dat (g i)) M) (hy : y = "range" := by rfl) (hg : C.sc.names.lookup y = some .globalImplicit := by rfl) (hs : ∀ env, starEach [a] env = [(false, eval a env)] := by intro _; rfl)
    (hi : C.N[jx]? = some x := by rfl) (hx : Loc (C.blk scope).sc x := by first | exact Or.inl rfl | exact Or.inr rfl) (hf' : (C.blk scope).fn x = true ∨ (C.blk scope).sc.names.lookup x = some .local := by first | exact .inl rfl | exact .inr rfl)
    (hf : ∀ env x, foldedSetIterable (.Call (.Name y q) [a] [] qs) env x = pure x := by intro _ _; rfl) : LC C elt (.Name x p) (.Call (.Name y q) [a] [] qs) [] scope own E M (.dat (.lst ((List.range j.toNat).map g))) M1 := by
  have key := LC.lPF (tg := .Name x p) (elt := elt) (ifs := []) (scope := scope) (own := own) (n := j.toNat) (v := g) (f := fun _ => true) ok nd (EI.rng1 (x := y) (p := q) (pos := qs) h hm (by omega) hy hg hs) (fun _ => True.intro) (by omega) hl hok (fun i hi' => by
    refine ⟨_, fun M => EGv.nm jx nd (by rw [ho]; simp) hi hx hf', fun M => EP.nil, fun _ M => ?_⟩
    rw [ho, atI0_eq]
    exact step i hi' M) hf
  rw [List.filter_eq_self.mpr (fun _ _ => rfl)] at key
  exact key
/-- [elt for x in range(j)], each element turns cells; the list a datum -/
theorem LC.lRS (jx : Nat) {y : Str} {q : Pos} {qs : Pos} {v : Nat → D} {M_ : Nat → Mem} (ok : blkC C.N C.sc scope own = true) (nd : C.N.Nodup) (ho : own.map (·.2) = [jx]) (h : EV C a E M (.dat (.int j)) M1) (hm : Bt C.g "range") (h0 : M_ 0 = M1) (hlen : ∀ i, i ≤ j.toNat → (M_ i).length = M1.length) (hl : M.length ≤ M1.length) (hok : OkM M (M_ j.toNat)) (hz : j < 100000 ∧ -100000 < j)
    (step : ∀ i, i < j.toNat → ∀ c, EV (C.blk scope) elt ((wipeE E [jx]).set jx (.dat (.int (i : Int)))) (M_ i ++ [c]) (.dat (v i)) (M_ (i + 1) ++ [c])) (hy : y = "range" := by rfl) (hg : C.sc.names.lookup y = some .globalImplicit := by rfl) (hs : ∀ env, starEach [a] env = [(false, eval a env)] := by intro _; rfl)
    (hi : C.N[jx]? = some x := by rfl) (hx : Loc (C.blk scope).sc x := by first | exact Or.inl rfl | exact Or.inr rfl) (hf' : (C.blk scope).fn x = true ∨ (C.blk scope).sc.names.lookup x = some .local := by first | exact .inl rfl | exact .inr rfl)
    (hf : ∀ env x, foldedSetIterable (.Call (.Name y q) [a] [] qs) env x = pure x := by intro _ _; rfl) : LC C elt (.Name x p) (.Call (.Name y q) [a] [] qs) [] scope own E M (.dat (.lst ((List.range j.toNat).map v))) (M_ j.toNat) :=
  LC.lS ok nd (EI.rng1 (x := y) (p := q) (pos := qs) h hm (by omega) hy hg hs) h0 hlen (fun _ _ _ => True.intro) (by omega) hl hok (fun i hi' => ⟨_, fun M => EGv.nm jx nd (by rw [ho]; simp) hi hx hf', fun c => by
    rw [ho, atI0_eq]
    exact step i hi' c⟩) hf
/-- .. a cell -/
theorem LC.lRSC (jx : Nat) {y : Str} {q : Pos} {qs : Pos} {v : Nat → D} {M_ : Nat → Mem} (ok : blkC C.N C.sc scope own = true) (nd : C.N.Nodup) (ho : own.map (·.2) = [jx]) (h : EV C a E M (.dat (.int j)) M1) (hm : Bt C.g "range") (h0 : M_ 0 = M1) (hlen : ∀ i, i ≤ j.toNat → (M_ i).length = M1.length) (hz : j < 100000 ∧ -100000 < j)
    (step : ∀ i, i < j.toNat → ∀ c, EV (C.blk scope) elt ((wipeE E [jx]).set jx (.dat (.int (i : Int)))) (M_ i ++ [c]) (.dat (v i)) (M_ (i + 1) ++ [c])) (hy : y = "range" := by rfl) (hg : C.sc.names.lookup y = some .globalImplicit := by rfl) (hs : ∀ env, starEach [a] env = [(false, eval a env)] := by intro _; rfl)
    (hi : C.N[jx]? = some x := by rfl) (hx : Loc (C.blk scope).sc x := by first | exact Or.inl rfl | exact Or.inr rfl) (hf' : (C.blk scope).fn x = true ∨ (C.blk scope).sc.names.lookup x = some .local := by first | exact .inl rfl | exact .inr rfl)
    (hf : ∀ env x, foldedSetIterable (.Call (.Name y q) [a] [] qs) env x = pure x := by intro _ _; rfl) : LC C elt (.Name x p) (.Call (.Name y q) [a] [] qs) [] scope own E M (.adr M1.length) (M_ j.toNat ++ [some (((List.range j.toNat).map v).map .dat)]) :=
  LC.lSC ok nd (EI.rng1 (x := y) (p := q) (pos := qs) h hm (by omega) hy hg hs) h0 hlen (fun _ _ _ => True.intro) (by omega) (fun i hi' => ⟨_, fun M => EGv.nm jx nd (by rw [ho]; simp) hi hx hf', fun c => by
    rw [ho, atI0_eq]
    exact step i hi' c⟩) hf
/-- [elt for x, y in zip(xs, ys)] -/
theorem LC.lZ {α β : Type} (jx jy : Nat) {y z : Str} {q qs q1 q2 : Pos} {kk : Nat} {xs : List α} {ys : List β} {f1 : α → D} {f2 : β → D} {g : α → β → D} (ok : blkC C.N C.sc scope own = true) (nd : C.N.Nodup) (ho : own.map (·.2) = [jx, jy])
    (h1 : EV C a E M (.dat d1) M1) (h2 : EV C b E M1 (.dat d2) M2) (hd : (d1 = .tup (xs.map f1) ∧ d2 = .tup (ys.map f2)) ∨ (d1 = .lst (xs.map f1) ∧ d2 = .lst (ys.map f2))) (hm : Bt C.g "zip") (hl : M.length ≤ M2.length) (hok : OkM M M2) (hz : xs.length < 100000)
    (step : ∀ u ∈ xs, ∀ v ∈ ys, ∀ M, EV (C.blk scope) elt (((wipeE E [jx, jy]).set jx (.dat (f1 u))).set jy (.dat (f2 v))) M (.dat (g u v)) M)
    (hy : z = "zip" := by rfl) (hg : C.sc.names.lookup z = some .globalImplicit := by rfl) (hs : ∀ env, starEach [a, b] env = (false, eval a env) :: starEach [b] env := by intro _; rfl) (hs2 : ∀ env, starEach [b] env = (false, eval b env) :: starEach [] env := by intro _; rfl) (hpl : ∀ env, (backTo qs (starEach [b] env)).any (·.1) = false := by intro _; rfl)
    (hi : C.N[jx]? = some x := by rfl) (hi' : C.N[jy]? = some y := by rfl) (hx : Loc (C.blk scope).sc x := by first | exact Or.inl rfl | exact Or.inr rfl) (hx' : Loc (C.blk scope).sc y := by first | exact Or.inl rfl | exact Or.inr rfl)
    (hf' : (C.blk scope).fn x = true ∨ (C.blk scope).sc.names.lookup x = some .local := by first | exact .inl rfl | exact .inr rfl) (hf'' : (C.blk scope).fn y = true ∨ (C.blk scope).sc.names.lookup y = some .local := by first | exact .inl rfl | exact .inr rfl)
    (hf : ∀ env x, foldedSetIterable (.Call (.Name z q) [a, b] [] qs) env x = pure x := by intro _ _; rfl) : LC C elt (.Tuple [.Name x q1, .Name y q2] kk p) (.Call (.Name z q) [a, b] [] qs) [] scope own E M (.dat (.lst ((xs.zip ys).map fun u => g u.1 u.2))) M2 := by
  have hlen : min (xs.map f1).length (ys.map f2).length = (xs.zip ys).length := by rw [List.length_map, List.length_map, List.length_zip]
  have hle : (xs.zip ys).length ≤ xs.length := by rw [List.length_zip]; omega
  have key := LC.lPF (tg := .Tuple [.Name x q1, .Name y q2] kk p) (elt := elt) (ifs := []) (scope := scope) (own := own) (v := fun i => ((xs.zip ys).map fun u => g u.1 u.2).getD i .non) (f := fun _ => true) ok nd (EI.zip (p := q) (pos := qs) (elts := [.Name x q1, .Name y q2]) (kk := kk) (tp := p) h1 h2 hd hm hy hg hs hs2 hpl) (fun _ => True.intro) (by omega) hl hok (fun i hlt => by
    rw [hlen] at hlt
    have l1 : i < xs.length := by rw [List.length_zip] at hlt; omega
    have l2 : i < ys.length := by rw [List.length_zip] at hlt; omega
    refine ⟨((wipeE E (own.map (·.2))).set jx (.dat (f1 xs[i]))).set jy (.dat (f2 ys[i])), fun M => ?_, fun M => EP.nil, fun _ M => ?_⟩
    · have ez : atZ (xs.map f1) (ys.map f2) i = .dat (.tup [f1 xs[i], f2 ys[i]]) := by
        unfold atZ
        rw [List.getD_eq_getElem?_getD, List.getD_eq_getElem?_getD, List.getElem?_map, List.getElem?_map, List.getElem?_eq_getElem l1, List.getElem?_eq_getElem l2]
        rfl
      rw [ez]
      exact EGv.tup (EGvs.cons (EGv.nm jx nd (by rw [ho]; simp) hi hx hf') (EGvs.cons (EGv.nm jy nd (by rw [ho]; simp) hi' hx' hf'') EGvs.nil))
    · have e : ((xs.zip ys).map fun u => g u.1 u.2).getD i .non = g xs[i] ys[i] := by
        rw [List.getD_eq_getElem?_getD, List.getElem?_map, List.getElem?_eq_getElem hlt, List.getElem_zip]
        rfl
      rw [e, ho]
      exact step _ (List.getElem_mem l1) _ (List.getElem_mem l2) M) hf
  have e2 : ((List.range (min (xs.map f1).length (ys.map f2).length)).filter fun _ => true).map (fun i => ((xs.zip ys).map fun u => g u.1 u.2).getD i D.non) = (xs.zip ys).map fun u => g u.1 u.2 := by
    rw [List.filter_eq_self.mpr (fun _ _ => rfl), hlen, ← List.length_map (fun u : α × β => g u.1 u.2)]
    exact range_getD _ _
  rw [e2] at key
  exact key

/-! ### methods of cells -/
theorem EV.append {n : Nat} {ps ps1 : List O} (ho : EV C a E M (.adr n) M1) (hv : EV C b E M1 o M2) (hm1 : M1[n]? = some (some ps1)) (hm : M2[n]? = some (some ps)) (hz : ps.length < 100000)
    (hbase : ∀ env, attributeBase a "append" env (eval a env) = eval a env := by intro _; rfl)
    (hfew : ∀ env, ((backTo pos (starEach [b] env)).all (fun x => !x.1) && (backToKw pos (keywordEach [] env)).all (fun x => x.1.isSome) && decide ([b].length + ([] : List Keyword).length + (if ([] : List Keyword).isEmpty then 0 else 1) < 30)) = true := by intro _; rfl)
    (hline : (apos.endLine == pos.line) = true := by rfl) (hs : ∀ env, starEach [b] env = (false, eval b env) :: starEach [] env := by intro _; rfl) : EV C (.Call (.Attribute a "append" apos) [b] [] pos) E M (.dat .non) (M2.set n (some (ps ++ [o]))) :=
  EV.mk (t := tBM C.g.K "list" rAppend (UE C a) (tCons (UE C b) tNil)) (fun X hX => by
    have := pe_bm (apos := apos) (cpos := pos) PySem.F.plainAttrs_list PySem.F.slot_list_append PySem.F.type_list_append mt_append (ue hX a) (pa_cons (ue hX b) pa_nil (hs X.env)) (hbase X.env) (hfew X.env) hline (hs X.env) rfl
    rw [hX.K] at this
    exact this) fun I H adr σ Q s q => ho I H adr σ _ s fun v I1 H1 adr1 s1 g1 v1 => by
      obtain ⟨p, hp, rfl⟩ := v1
      obtain ⟨_, xs1, hx1, _⟩ := s1.sto.cell n p ps1 hp hm1
      refine ⟨.inl ⟨rfl, xs1, sql_uniq hx1⟩, hv I1 H1 adr1 σ _ s1 fun w I2 H2 adr2 s2 g2 w2 => ?_⟩
      obtain ⟨_, xs, hx, hr⟩ := s2.sto.cell n p ps (g2.get hp) hm
      obtain ⟨s3, g3⟩ := s2.wri (g2.get hp) hm (Vs.app hr (.cons w2 .nil))
      exact ⟨p, xs, w, rfl, rfl, hx, by rw [← hr.length]; exact sz_lt hz, q _ I2 _ adr2 s3 ((g1.trans g2).trans g3) .non⟩
theorem EV.pop {n : Nat} {ps : List O} (ho : EV C a E M (.adr n) M1) (hm : M1[n]? = some (some ps)) (hl : ps[ps.length - 1]? = some o)
    (hbase : ∀ env, attributeBase a "pop" env (eval a env) = eval a env := by intro _; rfl) (hline : (apos.endLine == pos.line) = true := by rfl) : EV C (.Call (.Attribute a "pop" apos) [] [] pos) E M o (M1.set n (some ps.dropLast)) :=
  EV.mk (t := tBM0 C.g.K "list" rPop (UE C a)) (fun X hX => by
    have := pe_bm0 (apos := apos) (cpos := pos) PySem.F.plainAttrs_list PySem.F.slot_list_pop PySem.F.type_list_pop mt_pop (ue hX a) (hbase X.env) hline
    rw [hX.K] at this
    exact this) fun I H adr σ Q s q => ho I H adr σ _ s fun v I1 H1 adr1 s1 g1 v1 => by
      obtain ⟨p, hp, rfl⟩ := v1
      obtain ⟨_, xs, hx, hr⟩ := s1.sto.cell n p ps hp hm
      obtain ⟨y, hy, vy⟩ := hr.get hl
      obtain ⟨s3, g3⟩ := s1.wri hp hm (Vs.dropLast hr)
      exact ⟨.inl ⟨rfl, xs, sql_uniq hx⟩, p, xs, y, rfl, rfl, hx, by rw [← hr.length]; exact hy, q _ I1 _ adr1 s3 (g1.trans g3) (Vo.mono g3 vy)⟩

/-! ### is, on bools -/
theorem CS.isB : CS C .Is (.dat (.bl k)) (.dat (.bl k')) M (.dat (.bl (decide (k = k')))) M := ⟨_, fun X _ => op_is_bl, fun I H adr σ E v w Q s hv hw q => by
  cases rep_bl hv
  cases rep_bl hw
  exact ⟨k, k', rfl, rfl, q _ I H adr s Grow.refl (.bl _)⟩⟩
theorem CS.isnotB : CS C .IsNot (.dat (.bl k)) (.dat (.bl k')) M (.dat (.bl (!decide (k = k')))) M := ⟨_, fun X _ => op_isnot_bl, fun I H adr σ E v w Q s hv hw q => by
  cases rep_bl hv
  cases rep_bl hw
  exact ⟨k, k', rfl, rfl, q _ I H adr s Grow.refl (.bl _)⟩⟩

/-! ### calls of defs -/
theorem EV.callG {R : Rel} {kf : Nat} {os0 : List O} {o0 : O} {M0 M0' : Mem} {ι : List Nat} (F : FN C.g x kf R) (ha : EA C (e :: es) E M os M1) (hR : R os0 M0 o0 M0') (ho : os = os0.map (·.ren (rho ι M1.length))) (mx : Mix ι M1 M0 M0' M2) (hk : Nat.ble kf C.k = true := by rfl)
    (hg : C.sc.names.lookup x = some .globalImplicit := by rfl) (hdb : (x == ("__debug__" : Str)) = false := by decide) (he : ∀ env, starEach (e :: es) env = (false, eval e env) :: starEach es env := by intro _; rfl) (hpl : ∀ env, (backTo pos (starEach es env)).any (·.1) = false := by intro _; rfl) :
    EV C (.Call (.Name x p) (e :: es) [] pos) E M (o0.ren (rho ι M1.length)) M2 := by
  obtain ⟨f, fd, ps, F, hm, hkp, hb⟩ := F
  refine EV.mk (t := tCall (spR R) [] E0 (UA C (e :: es))) (fun X hX => ?_) (ev_call ha hR ho mx)
  refine pe_call (k := kf) (f := f) (fd := fd) (ps := ps) (by rw [hX.P, hX.w, hX.K, hX.mg, hX.base]; exact F) (hX.room.mono (Nat.le_of_ble_eq_true hk)) (by show X.env.scope.names.lookup x = _; rw [hX.sc]; exact hg) (by rw [hX.mg]; exact hm) (by rw [hX.K]; exact hkp) (by rw [hX.K]; exact hb) .nil pass0 (ua hX _) hdb (he X.env) (hpl X.env)
theorem mix0 : Mix [] M [] [] M := ⟨rfl, List.nodup_nil, rfl, fun i k h => by simp at h, fun k os h => .inl ⟨by simp, h⟩⟩
theorem ren_dat {ρ : Nat → Nat} : ∀ ds : List D, (ds.map O.dat).map (·.ren ρ) = ds.map O.dat
  | [] => rfl
  | d :: ds => by
    show O.dat d :: _ = O.dat d :: _
    rw [ren_dat ds]
theorem mix1 {n : Nat} {ds ds' : List D} (h : M[n]? = some (some (ds.map .dat))) : Mix [n] M [some (ds.map .dat)] [some (ds'.map .dat)] (M.set n (some (ds'.map .dat))) := by
  refine ⟨rfl, by simp, by simp, fun i k hk => ?_, fun k os hk => ?_⟩
  · have hi : i = 0 := by
      have := (List.getElem?_eq_some_iff.mp hk).1
      simp at this
      exact this
    subst hi
    have : n = k := by simpa using hk
    subst this
    rw [h]
    show _ = some (some ((ds.map O.dat).map _))
    rw [ren_dat]
  · by_cases hn : k = n
    · subst hn
      rw [List.getElem?_set_self (List.getElem?_eq_some_iff.mp h).1] at hk
      refine .inr ⟨0, ds'.map .dat, rfl, .inl (by simp), rfl, ?_⟩
      rw [ren_dat]
      exact (Option.some.inj (Option.some.inj hk)).symm
    · rw [List.getElem?_set_ne (fun z => hn z.symm)] at hk
      exact .inl ⟨by simpa using hn, hk⟩
theorem mixN {ds : List D} : Mix [] M [] [some (ds.map .dat)] (M ++ [some (ds.map .dat)]) := by
  refine ⟨rfl, List.nodup_nil, by simp, fun i k h => by simp at h, fun k os hk => ?_⟩
  by_cases hn : k < M.length
  · rw [List.getElem?_append_left hn] at hk
    exact .inl ⟨by simp, hk⟩
  · rw [List.getElem?_append_right (Nat.le_of_not_lt hn)] at hk
    have h0 : k - M.length = 0 := by
      have := (List.getElem?_eq_some_iff.mp hk).1
      simp at this
      omega
    rw [h0] at hk
    refine .inr ⟨0, ds.map .dat, ?_, .inr (Nat.le_refl _), rfl, ?_⟩
    · show M.length + (0 - 0) = k
      omega
    · rw [ren_dat]
      exact (Option.some.inj (Option.some.inj hk)).symm
theorem mix1N {n : Nat} {ds ds' es : List D} (h : M[n]? = some (some (ds.map .dat))) : Mix [n] M [some (ds.map .dat)] [some (ds'.map .dat), some (es.map .dat)] (M.set n (some (ds'.map .dat)) ++ [some (es.map .dat)]) := by
  refine ⟨rfl, by simp, by simp, fun i k hk => ?_, fun k os hk => ?_⟩
  · have hi : i = 0 := by
      have := (List.getElem?_eq_some_iff.mp hk).1
      simp at this
      exact this
    subst hi
    have : n = k := by simpa using hk
    subst this
    rw [h]
    show _ = some (some ((ds.map O.dat).map _))
    rw [ren_dat]
  · have hnl : n < M.length := (List.getElem?_eq_some_iff.mp h).1
    by_cases hlt : k < M.length
    · rw [List.getElem?_append_left (by rw [List.length_set]; exact hlt)] at hk
      by_cases hn : k = n
      · subst hn
        rw [List.getElem?_set_self hnl] at hk
        refine .inr ⟨0, ds'.map .dat, rfl, .inl (by simp), rfl, ?_⟩
        rw [ren_dat]
        exact (Option.some.inj (Option.some.inj hk)).symm
      · rw [List.getElem?_set_ne (fun z => hn z.symm)] at hk
        exact .inl ⟨by simpa using hn, hk⟩
    · rw [List.getElem?_append_right (by rw [List.length_set]; exact Nat.le_of_not_lt hlt), List.length_set] at hk
      have h0 : k - M.length = 0 := by
        have := (List.getElem?_eq_some_iff.mp hk).1
        simp at this
        omega
      rw [h0] at hk
      refine .inr ⟨1, es.map .dat, ?_, .inr (by simp), rfl, ?_⟩
      · show M.length + (1 - 1) = k
        omega
      · rw [ren_dat]
        exact (Option.some.inj (Option.some.inj hk)).symm
/-- a def of data alone -/
theorem EV.call {R : Rel} {kf : Nat} {ds : List D} (F : FN C.g x kf R) (ha : EA C (e :: es) E M (ds.map .dat) M1) (hR : R (ds.map .dat) [] (.dat d) []) (hk : Nat.ble kf C.k = true := by rfl)
    (hg : C.sc.names.lookup x = some .globalImplicit := by rfl) (hdb : (x == ("__debug__" : Str)) = false := by decide) (he : ∀ env, starEach (e :: es) env = (false, eval e env) :: starEach es env := by intro _; rfl) (hpl : ∀ env, (backTo pos (starEach es env)).any (·.1) = false := by intro _; rfl) :
    EV C (.Call (.Name x p) (e :: es) [] pos) E M (.dat d) M1 := EV.callG (ι := []) F ha hR (by rw [ren_dat]) mix0 hk hg hdb he hpl
/-- .. that hands back a new list -/
theorem EV.callN {R : Rel} {kf : Nat} {ds fs : List D} (F : FN C.g x kf R) (ha : EA C (e :: es) E M (ds.map .dat) M1) (hR : R (ds.map .dat) [] (.adr 0) [some (fs.map .dat)]) (hk : Nat.ble kf C.k = true := by rfl)
    (hg : C.sc.names.lookup x = some .globalImplicit := by rfl) (hdb : (x == ("__debug__" : Str)) = false := by decide) (he : ∀ env, starEach (e :: es) env = (false, eval e env) :: starEach es env := by intro _; rfl) (hpl : ∀ env, (backTo pos (starEach es env)).any (·.1) = false := by intro _; rfl) :
    EV C (.Call (.Name x p) (e :: es) [] pos) E M (.adr M1.length) (M1 ++ [some (fs.map .dat)]) := EV.callG (ι := []) F ha hR (by rw [ren_dat]) mixN hk hg hdb he hpl
/-- a def that turns one list, lent first -/
theorem EV.call1 {R : Rel} {kf n : Nat} {ds cs cs' : List D} (F : FN C.g x kf R) (ha : EA C (e :: es) E M (.adr n :: ds.map .dat) M1) (hc : M1[n]? = some (some (cs.map .dat))) (hR : R (.adr 0 :: ds.map .dat) [some (cs.map .dat)] (.dat d) [some (cs'.map .dat)]) (hk : Nat.ble kf C.k = true := by rfl)
    (hg : C.sc.names.lookup x = some .globalImplicit := by rfl) (hdb : (x == ("__debug__" : Str)) = false := by decide) (he : ∀ env, starEach (e :: es) env = (false, eval e env) :: starEach es env := by intro _; rfl) (hpl : ∀ env, (backTo pos (starEach es env)).any (·.1) = false := by intro _; rfl) :
    EV C (.Call (.Name x p) (e :: es) [] pos) E M (.dat d) (M1.set n (some (cs'.map .dat))) := EV.callG (ι := [n]) F ha hR (by show _ = O.adr n :: _; rw [ren_dat]) (mix1 hc) hk hg hdb he hpl
theorem EV.call1N {R : Rel} {kf n : Nat} {ds cs cs' fs : List D} (F : FN C.g x kf R) (ha : EA C (e :: es) E M (.adr n :: ds.map .dat) M1) (hc : M1[n]? = some (some (cs.map .dat))) (hR : R (.adr 0 :: ds.map .dat) [some (cs.map .dat)] (.adr 1) [some (cs'.map .dat), some (fs.map .dat)]) (hk : Nat.ble kf C.k = true := by rfl)
    (hg : C.sc.names.lookup x = some .globalImplicit := by rfl) (hdb : (x == ("__debug__" : Str)) = false := by decide) (he : ∀ env, starEach (e :: es) env = (false, eval e env) :: starEach es env := by intro _; rfl) (hpl : ∀ env, (backTo pos (starEach es env)).any (·.1) = false := by intro _; rfl) :
    EV C (.Call (.Name x p) (e :: es) [] pos) E M (.adr M1.length) (M1.set n (some (cs'.map .dat)) ++ [some (fs.map .dat)]) := EV.callG (ι := [n]) F ha hR (by show _ = O.adr n :: _; rw [ren_dat]) (mix1N hc) hk hg hdb he hpl
end
end Ab
/-! Ab: list(reversed(xs)). -/
namespace AbRev
open PySem PySem.W PySem.Calls PyProof.Rows PySem.Spec RT
section
variable {prog : Program} {w : World} {A : Around} {E : Value → Shared → Prop} {s : Shared}
theorem extend_rev {R : Result → Shared → Prop} {it l : Addr} {items : Array Value} (hh : A.handled = none) (hit : s.heap.IsRevIter it l ((items.size : Int) - 1)) (hl : s.heap.IsList l items) (hne : l ≠ it) (hn : items.size ≤ sizeLine) (S : Addr) (res : Value) (c₀ : Nat) (hS : s.heap.get? S = some { cls := .type "list", data := .seq #[] c₀ }) (hSi : S ≠ it) (hSl : S ≠ l)
    (hR : ∀ h' tk acc' c', (∀ b o, b ≠ S → b ≠ it → s.heap.get? b = some o → h'.get? b = some o) → h'.get? S = some { cls := .type "list", dict := none, data := .seq acc' c', slots := #[] } →
      ItemsOf (fun i v => items[items.size - 1 - i]? = some v) acc' items.size → R (.ok (.ret res)) { s with heap := h', toks := tk }) :
    wpAny (model prog w) A.in1 (Builtin.List.listExtendWith (.ref S) (.ref it) res)
      (fun fin s' => match fin with | .done f => R (.ok f) s' | .again c' => c'.quiet = true ∧ codeAny (model prog w) A c' R s') (fun e s' => R (.error e) s') s := by
  have W := (Walks.listRev (prog := prog) (w := w) (A := A.in1) hh it l hne items).toS
  have hSf : S ∉ [it, l] := by simp only [List.mem_cons, List.not_mem_nil, or_false, not_or]; exact ⟨hSi, hSl⟩
  have hT : s.TypeIs (.ref it) "list_reverseiterator" := Heap.IsRevIter.typeIs hit
  have h1 : Builtin.List.listSameRef (.ref S) (.ref it) = false := by simp [Builtin.List.listSameRef, hSi]
  unfold Builtin.List.listExtendWith
  refine wpAny_bind (wpAny_typeOf hT ?_)
  rw [if_neg (by rw [h1]; decide)]
  refine wpAny_bind (wpAny_pyIter_revIter hit ?_)
  refine wpAny_bind (wpAny_holding ?_)
  unfold Builtin.List.listLengthHint
  refine wpAny_bind (wpAny_specialOf hT nolen_lri ?_)
  show wpAny _ A.in1 (specialOf (Value.ref it) (Str.ofString "__length_hint__") >>= _) _ _ _
  refine wpAny_bind (wpAny_specialOf hT hint_lri ?_)
  generalize hid : ("list_reverseiterator.__length_hint__" : String) = id0
  wp_delta
  rw [show splitId id0 = some ("list_reverseiterator", "__length_hint__") from by subst hid; decide +kernel]
  subst hid
  refine wpAny_bind (wpAny_isInstance (b := true) hT (by rw [isSubtype_type]; kernel_rfl) ?_)
  refine wpAny_pure ?_
  rw [if_neg (by decide)]
  have e0 : ((items.size : Nat) : Int) - 1 - ((0 : Nat) : Int) = (items.size : Int) - 1 := by omega
  refine wpAny_pure ⟨plainId_quiet F.plain_extend_loop _, codeAny_extend_loopS W hn S hSf _ items.size 0 _ #[] c₀ rfl (Nat.zero_le _) ⟨Nat.zero_le _, by rw [e0]; exact hit, hl⟩ hS (ItemsOf.nil _) fun s' acc' c' hm hS' hacc => ?_⟩
  rw [Moved.eq_with hm]
  refine hR s'.heap s'.toks acc' c' (fun b o hb hb2 e => hm.heap b o (fun hmem => ?_) e) hS' hacc
  rcases List.mem_cons.mp hmem with e' | hmem
  · exact hb e'
  · exact hb2 (List.mem_singleton.mp hmem)
theorem list_init_rev {R : Result → Shared → Prop} {it l : Addr} {items : Array Value} (hh : A.handled = none) (hit : s.heap.IsRevIter it l ((items.size : Int) - 1)) (hl : s.heap.IsList l items) (hne : l ≠ it) (hn : items.size ≤ sizeLine) (S : Addr) (hS : s.heap.get? S = some { cls := .type "list", data := .seq #[] }) (hSi : S ≠ it) (hSl : S ≠ l)
    (hR : ∀ h' tk acc' c', (∀ b o, b ≠ S → b ≠ it → s.heap.get? b = some o → h'.get? b = some o) → h'.get? S = some { cls := .type "list", dict := none, data := .seq acc' c', slots := #[] } →
      ItemsOf (fun i v => items[items.size - 1 - i]? = some v) acc' items.size → R (.ok (.ret .none)) { s with heap := h', toks := tk }) :
    wpAny (model prog w) A.in1 (Builtin.«list.__init__» ⟨[.ref S, .ref it], []⟩)
      (fun fin s' => match fin with | .done f => R (.ok f) s' | .again c' => c'.quiet = true ∧ codeAny (model prog w) A c' R s') (fun e s' => R (.error e) s') s := by
  show wpAny _ _ (do let old ← Builtin.List.listItems (.ref S); Builtin.List.listUpdate (.ref S) (fun _ => #[]); letGo old.toList.reverse; Builtin.List.listExtendWith (.ref S) (.ref it) .none) _ _ s
  refine wpAny_bind ?_
  unfold Builtin.List.listItems
  refine wpAny_bind (wpAny_seqItems hS rfl (wpAny_pure ?_))
  show wpAny _ _ (updateSeq S (fun _ => #[]) >>= fun _ => letGo (#[] : Array Value).toList.reverse >>= fun _ => Builtin.List.listExtendWith (.ref S) (.ref it) .none) _ _ s
  refine wpAny_bind (wpAny_updateSeq hS rfl ?_)
  have hS₂ := Heap.get?_update_self (Obj.mapSeq (fun _ => (#[] : Array Value))) hS rfl
  have oth : ∀ b o, b ≠ S → s.heap.get? b = some o → (s.heap.update S (Obj.mapSeq (fun _ => (#[] : Array Value)))).get? b = some o :=
    fun b o hb e => (Heap.get?_update_other _ _ (Ne.symm hb)).trans e
  refine wpAny_bind (wpAny_letGo ?_)
  refine extend_rev hh (hit.at fun o e => oth it o (Ne.symm hSi) e) (hl.at fun o e => oth l o (Ne.symm hSl) e) hne hn S .none _ hS₂ hSi hSl fun h' tk acc' c' hk hS' hacc => ?_
  exact hR h' tk acc' c' (fun b o hb hb2 e => hk b o hb hb2 (oth b o hb e)) hS' hacc
theorem call_list_rev {it l : Addr} {items : Array Value} {Q : Value → Shared → Prop} (hh : A.handled = none) (hit : s.heap.IsRevIter it l ((items.size : Int) - 1)) (hl : s.heap.IsList l items) (hne : l ≠ it) (hn : items.size ≤ sizeLine)
    (hQ : ∀ h' tk acc' c', (∀ b o, b ≠ it → s.heap.get? b = some o → h'.get? b = some o) →
      h'.get? s.heap.objs.size = some { cls := .type "list", dict := none, data := .seq acc' c', slots := #[] } → ItemsOf (fun i v => items[items.size - 1 - i]? = some v) acc' items.size → Q (.ref s.heap.objs.size) { s with heap := h', toks := tk }) :
    wpAny (model prog w) A (call (.type "list") [.ref it]) Q E s := by
  refine callType_codes (Q₁ := fun obj s₁ => obj = .ref s.heap.objs.size ∧ s₁ = { s with heap := s.heap.push { cls := .type "list", data := .seq #[] } }) F.called_list (F.typeCall_list_1 _) F.entry_list_init
    (code_list_new _ ⟨rfl, rfl⟩) fun obj s₁ h₁ => ?_
  obtain ⟨rfl, rfl⟩ := h₁
  obtain ⟨oi, hoi, _⟩ := id hit
  obtain ⟨ol, hol, _⟩ := id hl
  have hS : (s.heap.push { cls := .type "list", data := .seq #[] }).get? s.heap.objs.size = some { cls := .type "list", data := .seq #[] } := Heap.get?_push_size _ rfl
  refine ⟨⟨_, hS, rfl⟩, F.args_list_init_2 _ _, list_init_rev (A := A.in1) (s := { s with heap := s.heap.push { cls := .type "list", data := .seq #[] } }) hh (hit.at fun o e => Heap.get?_push_of_some _ e) (hl.push _) hne hn _ hS (Nat.ne_of_gt (Heap.lt_size hoi)) (Nat.ne_of_gt (Heap.lt_size hol)) fun h' tk acc' c' hk hS' hacc => ?_⟩
  exact ⟨rfl, hQ h' tk acc' c' (fun b o hb e => hk b o (Nat.ne_of_lt (Heap.lt_size e)) hb (Heap.get?_push_of_some _ e)) hS' hacc⟩
end
end AbRev

namespace Ab
open PySem PySem.Spec PyProof.Rows L2
variable [TabCtx]
def tListRev (K : PySem.W.Frag) (te : TE) : TE := fun σ H Q => te σ H fun v H1 => ∃ (a : Addr) (xs : List V), v = .ref a ∧ SqL K H1 a xs ∧ ∀ q, H1 q = none → Q (.ref q) (upd H1 q (.lst xs.reverse))
theorem pe_listRev {X : Cx} {e : Expr} {te : TE} {p p2 pos pos2 : Pos} (hc : X.calm = true) (hg : Gl X "list") (hm : X.mg "list" = none) (hg2 : Gl X "reversed") (hm2 : X.mg "reversed" = none) (he : PE X e te)
    (hs : starEach [e] X.env = (false, eval e X.env) :: starEach [] X.env := by rfl)
    (hs2 : starEach [.Call (.Name "reversed" p2) [e] [] pos2] X.env = (false, eval (.Call (.Name "reversed" p2) [e] [] pos2) X.env) :: starEach [] X.env := by rfl) :
    PE X (.Call (.Name "list" p) [.Call (.Name "reversed" p2) [e] [] pos2] [] pos) (tListRev X.K te) := by
  refine ⟨fun pins s σ H Q I h => ?_⟩
  refine Call_ (ld_blt I hg hm (by decide +kernel : bootBuiltins "list" = some (.type "list")) (PyProof.Rows.callWith_type1 (args_cons (Call_ (ld_blt I hg2 hm2 PyProof.Rows.boot_reversed (PyProof.Rows.callWith_type1 (args_cons (thn (he.run pins s σ H _ I h) fun u s1 ⟨v, H1, I1, r1, q1⟩ => args_nil ?_) hs) hs rfl))) hs2) hs2 rfl))
  obtain ⟨a, xs, ev, hq, q⟩ := q1
  subst ev
  obtain rfl : u = Value.ref a := r1
  obtain ⟨its, rv, p', hz⟩ := I1.list hq
  refine call_reversed_list p'.isList (args_nil ?_)
  have k0 : ∀ b o, s1.heap.get? b = some o → (s1.heap.push (revObj a ((its.toArray.size : Int) - 1))).get? b = some o := fun b o e => Heap.get?_push_of_some _ e
  have I2 : Inv X pins σ H1 { s1 with heap := s1.heap.push (revObj a ((its.toArray.size : Int) - 1)) } := I1.kept (t' := s1.toks) k0
  have hf := I1.fpOk (H' := H1) (b := s1.heap.objs.size) (Nat.le_refl _) (I1.hok.fresh (Nat.le_refl _))
  have hl := p'.isList
  obtain ⟨ol, hol, _⟩ := id hl
  have hne : a ≠ s1.heap.objs.size := Nat.ne_of_lt (Heap.lt_size hol)
  have hn : its.toArray.size ≤ sizeLine := by rw [List.size_toArray, ← rv.length]; exact hz
  refine AbRev.call_list_rev (s := { s1 with heap := s1.heap.push (revObj a ((its.toArray.size : Int) - 1)) }) (I1.ok.hd hc) ⟨_, Heap.get?_push_size _ rfl, rfl, rfl⟩ (hl.push _) hne hn fun h' tk acc c' hk hS hi => ?_
  have new : ObjOk X.prog X.w (upd H1 (s1.heap.push (revObj a ((its.toArray.size : Int) - 1))).objs.size (.lst xs.reverse)) h' (s1.heap.push (revObj a ((its.toArray.size : Int) - 1))).objs.size (.lst xs.reverse) :=
    ⟨by rw [List.length_reverse]; exact hz, acc.toList, c', RT.vals_rev rv hi, by rw [Array.toArray_toList]; exact hS⟩
  exact ⟨.ref _, _, I2.turnedNew (t' := tk) (ch := [s1.heap.objs.size]) (fun b o hb e => hk b o (fun z => hb (by rw [z]; exact List.mem_singleton.mpr rfl)) e) (fun b hb => by rw [List.mem_singleton.mp hb]; exact hf) (Nat.le_refl _) new, rfl, q _ (I2.hok.fresh (Nat.le_refl _))⟩
end Ab
/-! Ab: short words. -/
namespace Ab
open PySem PySem.Spec PyProof.Rows L2
variable [TabCtx]
section
variable {C : Cc} {E E1 E2 E' : List O} {M M1 M2 M3 M' : Mem} {o o1 o2 o3 : O} {os : List O} {e a b c tg iter elt : Expr} {es : List Expr} {pos pos' p p2 pos2 : Pos} {d d1 d2 : D} {i j : Int} {n : Nat} {k k' : Bool} {r : Out} {body : List Stmt} {x y : Str} {ds : List D}

/-! ### built-ins by name -/
theorem EV.bi {id : String} (S : KS C (.builtin id) [o1] M1 o M') (h : EV C a E M o1 M1) (hm : Bt C.g x) (hv : bootBuiltins x = some (.builtin id)) (hn : x ≠ "__name__") (hdb : (x == ("__debug__" : Str)) = false) (hg : C.sc.names.lookup x = some .globalImplicit)
    (he : ∀ env, starEach [a] env = (false, eval a env) :: starEach [] env) : EV C (.Call (.Name x p) [a] [] pos) E M o M' := EV.cb S (EA.cons h EA.nil he) hm hv hg hn hdb he (fun _ => rfl)
theorem EV.bt {T : String} (S : KS C (.type T) [o1] M1 o M') (h : EV C a E M o1 M1) (hm : Bt C.g x) (hv : bootBuiltins x = some (.type T)) (hn : x ≠ "__name__") (hdb : (x == ("__debug__" : Str)) = false) (hg : C.sc.names.lookup x = some .globalImplicit)
    (he : ∀ env, starEach [a] env = (false, eval a env) :: starEach [] env) : EV C (.Call (.Name x p) [a] [] pos) E M o M' := EV.cty S (EA.cons h EA.nil he) hm hv hg hn hdb he (fun _ => rfl)
theorem bv_len : bootBuiltins "len" = some (.builtin "len") := by decide +kernel
theorem bv_sum : bootBuiltins "sum" = some (.builtin "sum") := by decide +kernel
theorem bv_all : bootBuiltins "all" = some (.builtin "all") := by decide +kernel
theorem bv_any : bootBuiltins "any" = some (.builtin "any") := by decide +kernel
theorem bv_abs : bootBuiltins "abs" = some (.builtin "abs") := by decide +kernel
theorem bv_min : bootBuiltins "min" = some (.builtin "min") := by decide +kernel
theorem bv_max : bootBuiltins "max" = some (.builtin "max") := by decide +kernel
theorem bv_int : bootBuiltins "int" = some (.type "int") := by decide +kernel
theorem bv_bool : bootBuiltins "bool" = some (.type "bool") := by decide +kernel
theorem bv_str : bootBuiltins "str" = some (.type "str") := by decide +kernel
theorem bv_tuple : bootBuiltins "tuple" = some (.type "tuple") := by decide +kernel
theorem bv_list : bootBuiltins "list" = some (.type "list") := by decide +kernel
theorem EV.len (h : EV C a E M (.dat d) M') (hl : lenD d = some n) (hm : Bt C.g "len") (hx : x = "len" := by rfl) (hg : C.sc.names.lookup x = some .globalImplicit := by rfl) (he : ∀ env, starEach [a] env = (false, eval a env) :: starEach [] env := by intro _; rfl) : EV C (.Call (.Name x p) [a] [] pos) E M (.dat (.int (n : Int))) M' := by
  subst hx; exact EV.bi (KS.len hl) h hm bv_len (by decide) (by decide) hg he
theorem EV.lenC {nn : Nat} {ps : List O} (h : EV C a E M (.adr nn) M') (hl : M'[nn]? = some (some ps)) (hm : Bt C.g "len") (hx : x = "len" := by rfl) (hg : C.sc.names.lookup x = some .globalImplicit := by rfl) (he : ∀ env, starEach [a] env = (false, eval a env) :: starEach [] env := by intro _; rfl) : EV C (.Call (.Name x p) [a] [] pos) E M (.dat (.int (ps.length : Int))) M' := by
  subst hx; exact EV.bi (KS.lenC hl) h hm bv_len (by decide) (by decide) hg he
theorem EV.sum {ns : List Int} (h : EV C a E M (.dat (.lst (ns.map .int))) M') (hm : Bt C.g "sum") (hx : x = "sum" := by rfl) (hg : C.sc.names.lookup x = some .globalImplicit := by rfl) (he : ∀ env, starEach [a] env = (false, eval a env) :: starEach [] env := by intro _; rfl) : EV C (.Call (.Name x p) [a] [] pos) E M (.dat (.int ns.sum)) M' := by
  subst hx; exact EV.bi KS.sum h hm bv_sum (by decide) (by decide) hg he
theorem EV.all {bs : List Bool} (h : EV C a E M (.dat (.lst (bs.map .bl))) M') (hm : Bt C.g "all") (hx : x = "all" := by rfl) (hg : C.sc.names.lookup x = some .globalImplicit := by rfl) (he : ∀ env, starEach [a] env = (false, eval a env) :: starEach [] env := by intro _; rfl) : EV C (.Call (.Name x p) [a] [] pos) E M (.dat (.bl (bs.all id))) M' := by
  subst hx; exact EV.bi KS.all h hm bv_all (by decide) (by decide) hg he
theorem EV.any {bs : List Bool} (h : EV C a E M (.dat (.lst (bs.map .bl))) M') (hm : Bt C.g "any") (hx : x = "any" := by rfl) (hg : C.sc.names.lookup x = some .globalImplicit := by rfl) (he : ∀ env, starEach [a] env = (false, eval a env) :: starEach [] env := by intro _; rfl) : EV C (.Call (.Name x p) [a] [] pos) E M (.dat (.bl (bs.any id))) M' := by
  subst hx; exact EV.bi KS.any h hm bv_any (by decide) (by decide) hg he
theorem EV.abs (h : EV C a E M (.dat (.int i)) M') (hm : Bt C.g "abs") (hx : x = "abs" := by rfl) (hg : C.sc.names.lookup x = some .globalImplicit := by rfl) (he : ∀ env, starEach [a] env = (false, eval a env) :: starEach [] env := by intro _; rfl) : EV C (.Call (.Name x p) [a] [] pos) E M (.dat (.int (i.natAbs : Int))) M' := by
  subst hx; exact EV.bi KS.abs h hm bv_abs (by decide) (by decide) hg he
theorem EV.intI (h : EV C a E M (.dat (.int i)) M') (hm : Bt C.g "int") (hx : x = "int" := by rfl) (hg : C.sc.names.lookup x = some .globalImplicit := by rfl) (he : ∀ env, starEach [a] env = (false, eval a env) :: starEach [] env := by intro _; rfl) : EV C (.Call (.Name x p) [a] [] pos) E M (.dat (.int i)) M' := by
  subst hx; exact EV.bt KS.intI h hm bv_int (by decide) (by decide) hg he
theorem EV.intB (h : EV C a E M (.dat (.bl k)) M') (hm : Bt C.g "int") (hx : x = "int" := by rfl) (hg : C.sc.names.lookup x = some .globalImplicit := by rfl) (he : ∀ env, starEach [a] env = (false, eval a env) :: starEach [] env := by intro _; rfl) : EV C (.Call (.Name x p) [a] [] pos) E M (.dat (.int (if k then 1 else 0))) M' := by
  subst hx; exact EV.bt KS.intB h hm bv_int (by decide) (by decide) hg he
theorem EV.tuple (h : EV C a E M (.dat d) M') (hl : seqD d = some ds) (hm : Bt C.g "tuple") (hx : x = "tuple" := by rfl) (hg : C.sc.names.lookup x = some .globalImplicit := by rfl) (he : ∀ env, starEach [a] env = (false, eval a env) :: starEach [] env := by intro _; rfl) : EV C (.Call (.Name x p) [a] [] pos) E M (.dat (.tup ds)) M' := by
  subst hx; exact EV.bt (KS.tuple hl) h hm bv_tuple (by decide) (by decide) hg he
theorem EV.tupleC {nn : Nat} (h : EV C a E M (.adr nn) M') (hl : M'[nn]? = some (some (ds.map .dat))) (hm : Bt C.g "tuple") (hx : x = "tuple" := by rfl) (hg : C.sc.names.lookup x = some .globalImplicit := by rfl) (he : ∀ env, starEach [a] env = (false, eval a env) :: starEach [] env := by intro _; rfl) : EV C (.Call (.Name x p) [a] [] pos) E M (.dat (.tup ds)) M' := by
  subst hx; exact EV.bt (KS.tupleC hl) h hm bv_tuple (by decide) (by decide) hg he
theorem EV.list (h : EV C a E M (.dat d) M') (hl : seqD d = some ds) (hm : Bt C.g "list") (hx : x = "list" := by rfl) (hg : C.sc.names.lookup x = some .globalImplicit := by rfl) (he : ∀ env, starEach [a] env = (false, eval a env) :: starEach [] env := by intro _; rfl) : EV C (.Call (.Name x p) [a] [] pos) E M (.dat (.lst ds)) M' := by
  subst hx; exact EV.bt (KS.list hl) h hm bv_list (by decide) (by decide) hg he
theorem EV.listN (h : EV C a E M (.dat d) M') (hl : seqD d = some ds) (hm : Bt C.g "list") (hx : x = "list" := by rfl) (hg : C.sc.names.lookup x = some .globalImplicit := by rfl) (he : ∀ env, starEach [a] env = (false, eval a env) :: starEach [] env := by intro _; rfl) : EV C (.Call (.Name x p) [a] [] pos) E M (.adr M'.length) (M' ++ [some (ds.map .dat)]) := by
  subst hx; exact EV.bt (KS.listN hl) h hm bv_list (by decide) (by decide) hg he
theorem EV.max2 (h : EV C a E M (.dat (.int i)) M1) (h' : EV C b E M1 (.dat (.int j)) M') (hm : Bt C.g "max") (hx : x = "max" := by rfl) (hg : C.sc.names.lookup x = some .globalImplicit := by rfl) (he : ∀ env, starEach [a, b] env = (false, eval a env) :: starEach [b] env := by intro _; rfl) (he2 : ∀ env, starEach [b] env = (false, eval b env) :: starEach [] env := by intro _; rfl) (hpl : ∀ env, (backTo pos (starEach [b] env)).any (·.1) = false := by intro _; rfl) : EV C (.Call (.Name x p) [a, b] [] pos) E M (.dat (.int (max i j))) M' := by
  subst hx
  have := EV.cb (p := p) (pos := pos) (KS.max2 (C := C) (M := M') (i := i) (j := j)) (EA.cons h (EA.cons h' EA.nil he2) he) hm bv_max hg (by decide) (by decide) he hpl
  have e : (if j > i then j else i) = max i j := by split <;> omega
  rw [e] at this
  exact this
/-- list(reversed(xs)), a cell -/
theorem EV.listRevN (h : EV C a E M (.dat (.lst ds)) M') (hm : Bt C.g "list") (hm2 : Bt C.g "reversed") (hx : x = "list" := by rfl) (hy : y = "reversed" := by rfl) (hg : C.sc.names.lookup x = some .globalImplicit := by rfl) (hg2 : C.sc.names.lookup y = some .globalImplicit := by rfl) (he : ∀ env, starEach [a] env = (false, eval a env) :: starEach [] env := by intro _; rfl) :
    EV C (.Call (.Name x p) [.Call (.Name y p2) [a] [] pos2] [] pos) E M (.adr M'.length) (M' ++ [some (ds.reverse.map .dat)]) := by
  subst hx hy
  refine EV.mk (t := tListRev C.g.K (UE C a)) (fun X hX => ?_) fun I H adr σ Q s q => h I H adr σ _ s fun v I1 H1 adr1 s1 g1 v1 => ?_
  · have := pe_listRev (p := p) (p2 := p2) (pos := pos) (pos2 := pos2) hX.calm (by show X.env.scope.names.lookup _ = _; rw [hX.sc]; exact hg) (by rw [hX.mg]; exact hm) (by show X.env.scope.names.lookup _ = _; rw [hX.sc]; exact hg2) (by rw [hX.mg]; exact hm2) (ue hX a) (he X.env) rfl
    rw [hX.K] at this
    exact this
  · cases (show Rep I1 (.lst ds) v from v1) with
    | @lst q' xs _ hp hr =>
      refine ⟨q', xs, rfl, sql_uniq (s1.ex _ _ hp), fun q2 h2 => ?_⟩
      obtain ⟨s2, g2, r2⟩ := s1.cel h2 (Vs.reps hr.reverse)
      exact q _ _ _ _ s2 (g1.trans g2) ⟨q2, r2, rfl⟩
theorem EV.listRev (h : EV C a E M (.dat (.lst ds)) M') (hm : Bt C.g "list") (hm2 : Bt C.g "reversed") (hl : M.length ≤ M'.length) (ok : OkM M M') (hx : x = "list" := by rfl) (hy : y = "reversed" := by rfl) (hg : C.sc.names.lookup x = some .globalImplicit := by rfl) (hg2 : C.sc.names.lookup y = some .globalImplicit := by rfl) (he : ∀ env, starEach [a] env = (false, eval a env) :: starEach [] env := by intro _; rfl) :
    EV C (.Call (.Name x p) [.Call (.Name y p2) [a] [] pos2] [] pos) E M (.dat (.lst ds.reverse)) M' := Ev.froz (EV.listRevN h hm hm2 hx hy hg hg2 he) rfl hl ok

/-! ### sums and the like -/
theorem EV.add (ha : EV C a E M (.dat (.int i)) M1) (hb : EV C b E M1 (.dat (.int j)) M') : EV C (.BinOp a .Add b pos) E M (.dat (.int (i + j))) M' := EV.bin ha hb BS.addI
theorem EV.sub (ha : EV C a E M (.dat (.int i)) M1) (hb : EV C b E M1 (.dat (.int j)) M') : EV C (.BinOp a .Sub b pos) E M (.dat (.int (i - j))) M' := EV.bin ha hb BS.subI
theorem EV.mul (ha : EV C a E M (.dat (.int i)) M1) (hb : EV C b E M1 (.dat (.int j)) M') (h : IntMulOk i j) : EV C (.BinOp a .Mult b pos) E M (.dat (.int (i * j))) M' := EV.bin ha hb (BS.mulI h)
theorem EV.mod (ha : EV C a E M (.dat (.int i)) M1) (hb : EV C b E M1 (.dat (.int j)) M') (h : 0 < j) : EV C (.BinOp a .Mod b pos) E M (.dat (.int (i % j))) M' := EV.bin ha hb (BS.modI h)
theorem EV.div (ha : EV C a E M (.dat (.int i)) M1) (hb : EV C b E M1 (.dat (.int j)) M') (h : CDivW i j) : EV C (.BinOp a .FloorDiv b pos) E M (.dat (.int (i / j))) M' := EV.bin ha hb (BS.divI h)
theorem EV.pow (ha : EV C a E M (.dat (.int i)) M1) (hb : EV C b E M1 (.dat (.int j)) M') (h : CPow i j) : EV C (.BinOp a .Pow b pos) E M (.dat (.int (i ^ j.toNat))) M' := EV.bin ha hb (BS.powI h)
theorem mul_ok {i j : Int} {m n : Nat} (hi : i.natAbs < 2 ^ m) (hj : j.natAbs < 2 ^ n) (h0 : 0 < m := by decide) (h1 : 0 < n := by decide) (h : m + n ≤ 1000000 := by decide) : IntMulOk i j := CMulW.ok (wide_mul hi hj h0 h1 h)
theorem bits_le {i : Int} (h : -(2 ^ 64) < i ∧ i < 2 ^ 64) : Builtin.Int.intBits i ≤ 64 := by
  unfold Builtin.Int.intBits
  split
  · omega
  · have h1 : i.natAbs < 2 ^ 64 := by omega
    have := PySem.Flt.log2_lt_of (show 0 < 64 by decide) h1
    omega
theorem mul_okL {i j : Int} (h : -(2 ^ 64) < i ∧ i < 2 ^ 64) : IntMulOk i j := IntMulOk.of_left (bits_le h)
theorem mul_okR {i j : Int} (h : -(2 ^ 64) < j ∧ j < 2 ^ 64) : IntMulOk i j := IntMulOk.of_right (bits_le h)
theorem EV.mulL (ha : EV C a E M (.dat (.int i)) M1) (hb : EV C b E M1 (.dat (.int j)) M') (h : -(2 ^ 64) < i ∧ i < 2 ^ 64) : EV C (.BinOp a .Mult b pos) E M (.dat (.int (i * j))) M' := EV.mul ha hb (mul_okL h)
theorem EV.mulR (ha : EV C a E M (.dat (.int i)) M1) (hb : EV C b E M1 (.dat (.int j)) M') (h : -(2 ^ 64) < j ∧ j < 2 ^ 64) : EV C (.BinOp a .Mult b pos) E M (.dat (.int (i * j))) M' := EV.mul ha hb (mul_okR h)

/-! ### guards -/
theorem ET.to {e : Expr} (h : ET C e E M k M') (q : k = k') : ET C e E M k' M' := q ▸ h
theorem SB.guard {ys rest : List Stmt} (hc : ET C c E M k M1) (h1 : k = true → SB C ys E M1 r) (h2 : k = false → SB C rest E M1 r) (he : r.ends = true := by rfl) : SB C (.If c ys [] pos :: rest) E M r := by
  cases k with
  | true => exact SB.stop (ST.yes hc (h1 rfl)) he
  | false => exact SB.cons (ST.no hc SB.nil) (h2 rfl)
theorem SB.to {sts : List Stmt} {r' : Out} (h : SB C sts E M r) (q : r = r') : SB C sts E M r' := q ▸ h
theorem ST.to {st : Stmt} {r' : Out} (h : ST C st E M r) (q : r = r') : ST C st E M r' := q ▸ h
/-! ### a cell is frozen -/
theorem SB.fz {jj nn : Nat} {sts : List Stmt} (he : E[jj]? = some (.adr nn)) (hm : M[nn]? = some (some (ds.map .dat))) (h : SB C sts (E.set jj (.dat (.lst ds))) (M.set nn none) r) : SB C sts E M r := fun I H adr σ D s q => by
  have hk : nn < adr.length := by
    rw [s.sto.len]
    exact (List.getElem?_eq_some_iff.mp hm).1
  obtain ⟨I1, s1, g1, r1⟩ := s.frz (List.getElem?_eq_getElem hk) hm
  have hj : jj < σ.length := by
    rw [← s.len]
    exact (List.getElem?_eq_some_iff.mp he).1
  have hs := s.slot jj _ σ[jj] he (List.getElem?_eq_getElem hj)
  cases hv : σ[jj] with
  | none =>
    rw [hv] at hs
    cases hs
  | some v =>
    rw [hv] at hs
    obtain ⟨a', h1, h2⟩ := hs
    rw [List.getElem?_eq_getElem hk] at h1
    cases h1
    subst h2
    have s2 : Stt I1 H adr (σ.set jj (some (.ref adr[nn]))) (E.set jj (.dat (.lst ds))) (M.set nn none) := s1.set r1
    have e : σ.set jj (some (.ref adr[nn])) = σ := by
      rw [← hv]
      exact List.set_getElem_self hj
    rw [e] at s2
    exact h I1 H adr σ D s2 (q.mono g1)

/-! ### what a def leaves behind may be dropped -/
def LowO (n : Nat) : O → Prop
  | .adr k => k < n
  | .obj _ fs => ∀ f ∈ fs, f.2 < n
  | _ => True
def LowM (n : Nat) (M : Mem) : Prop := ∀ (k : Nat) (os : List O), M[k]? = some (some os) → ∀ o ∈ os, LowO n o
theorem LowM.nil {n : Nat} : LowM n [] := fun k os h => by simp at h
theorem LowM.dat {n : Nat} {ds : List D} {M : Mem} (h : LowM n M) : LowM n (some (ds.map .dat) :: M) := fun k os q o ho => by
  cases k with
  | zero =>
    have e : ds.map O.dat = os := Option.some.inj (Option.some.inj q)
    subst e
    obtain ⟨d, _, rfl⟩ := List.mem_map.mp ho
    exact True.intro
  | succ k => exact h k os q o ho
theorem LowM.none {n : Nat} {M : Mem} (h : LowM n M) : LowM n (none :: M) := fun k os q o ho => by
  cases k with
  | zero => cases q
  | succ k => exact h k os q o ho
theorem vo_take {I : Hp} {adr : List Addr} {n : Nat} {v : V} : ∀ {o : O}, LowO n o → Vo I adr o v → Vo I (adr.take n) o v
  | .no, _, _ => True.intro
  | .dat _, _, h => h
  | .scr _ _, _, h => h
  | .obj _ fs, hk, h => by
    obtain ⟨p, dx, gs, h1, h2, h3⟩ := h
    exact ⟨p, dx, gs, h1, h2, prImp h3 fun f hf g q => ⟨q.1, let ⟨a, e1, e2⟩ := q.2; ⟨a, by rw [List.getElem?_take, if_pos (show f.2 < n from hk f hf)]; exact e1, e2⟩⟩⟩
  | .adr k, hk, h => by
    obtain ⟨a, h1, h2⟩ := h
    exact ⟨a, by rw [List.getElem?_take, if_pos (show k < n from hk)]; exact h1, h2⟩
theorem vs_take {I : Hp} {adr : List Addr} {n : Nat} : ∀ {os : List O} {xs : List V}, (∀ o ∈ os, LowO n o) → Vs I adr os xs → Vs I (adr.take n) os xs
  | _, _, _, .nil => .nil
  | _, _, hl, .cons h r => .cons (vo_take (hl _ List.mem_cons_self) h) (vs_take (fun o ho => hl o (List.mem_cons_of_mem _ ho)) r)
theorem FN.mkJ {g : Pg} {x : Str} {st : Stmt} {N ps : List Str} {k : Nat} {R : Rel} (T : TxtF g x st) (S : FnScope N ps (defScope st))
    (hb : ∀ (kV doc pm : Value) (an : Option Addr) (cdv ct : Value) (us : List Value), us.length = ps.length → bindArgs (PySem.W.fnOf x x (defArgs st) (defBody st) (defScope st) .none kV doc pm an cdv ct) ⟨us, []⟩ = pure (ps.zip us))
    (hl : ∀ os M o M', R os M o M' → os.length = ps.length) (body : ∀ os M o M', R os M o M' → M.length ≤ M'.length ∧ LowO M'.length o ∧ LowM M'.length M' ∧ ∃ J, SB (mkC g N st k) (defBody st) (pad N os) M (.rt o (M' ++ J))) : FN g x (k + 1) R := by
  obtain ⟨f, fd, F, hm⟩ := T.fn
  refine ⟨f, fd, ps, F.ok (N := N) S (fun vs H Q E h => ?_) (fun cdv A outer s H vs Q E hr h => ?_), hm, F.kp, F.binds hb⟩
  · obtain ⟨I, adr, os, M, o, M', r, _, _, v, _⟩ := h
    rw [← v.length]
    exact hl _ _ _ _ r
  · obtain ⟨I, adr, os, M, o, M', r, ex, sto, v, q⟩ := h
    obtain ⟨hlen, lo, lm, J, hB⟩ := body os M o M' r
    refine ⟨UB (mkC g N st k) (defBody st), ub ⟨rfl, rfl, rfl, rfl, rfl, rfl, rfl, rfl, hr, PassesOwn.never, takes0, fun _ _ => rfl, fun _ _ z => (by cases z), ⟨_, _, rfl, S.gen, S.co, rfl, rfl⟩⟩ _, ?_⟩
    refine hB I H adr (L2.start N vs) _ ⟨ex, sto, ?_, fun i p ov h1 h2 => ?_⟩ fun w I' H' adr' s' g' v' => ?_
    · unfold pad L2.start
      rw [List.length_append, List.length_append, List.length_map, List.length_replicate, List.length_replicate, v.length]
    · unfold pad at h1
      unfold L2.start at h2
      by_cases hi : i < os.length
      · rw [List.getElem?_append_left hi] at h1
        obtain ⟨w, e1, e2⟩ := v.get h1
        rw [List.getElem?_append_left (by rw [List.length_map, ← v.length]; exact hi), List.getElem?_map, e1] at h2
        cases h2
        exact e2
      · rw [List.getElem?_append_right (Nat.le_of_not_lt hi)] at h1
        have hp : p = .no := List.eq_of_mem_replicate (List.mem_of_getElem? h1)
        subst hp
        cases ov with
        | none => rfl
        | some w => exact True.intro
    · obtain ⟨nw, rfl, fr⟩ := g'.new
      have l1 := s'.sto.len
      have l2 := sto.len
      rw [List.length_append, List.length_append] at l1
      have ht : (adr ++ nw).take M'.length = adr ++ nw.take (M'.length - adr.length) := by
        rw [List.take_append, List.take_of_length_le (by omega)]
      have sub : ∀ (k : Nat) (a : Addr), ((adr ++ nw).take M'.length)[k]? = some a → (adr ++ nw)[k]? = some a := fun k a h => by
        rw [List.getElem?_take] at h
        split at h
        · exact h
        · cases h
      refine q w I' H' ((adr ++ nw).take M'.length) s'.ex ⟨?_, s'.sto.nd.sublist (List.take_sublist _ _), fun k a ps h1 h2 => ?_, fun k a h1 => s'.sto.dom k a (sub k a h1), s'.sto.amb⟩ ⟨g'.ex, ⟨_, ht, fun p hp => fr p (List.take_subset _ _ hp)⟩, g'.keep, g'.dom, g'.out, g'.code⟩ (vo_take lo v')
      · rw [List.length_take, List.length_append]
        omega
      · have hk : k < M'.length := (List.getElem?_eq_some_iff.mp h2).1
        obtain ⟨c1, xs, c2, c3⟩ := s'.sto.cell k a ps (sub k a h1) (by rw [List.getElem?_append_left hk]; exact h2)
        exact ⟨c1, xs, c2, vs_take (lm k ps h2) c3⟩
theorem FN.mkNx {g : Pg} {x : Str} {st : Stmt} {N ps : List Str} {k : Nat} {R : Rel} (T : TxtF g x st) (S : FnScope N ps (defScope st))
    (hb : ∀ (kV doc pm : Value) (an : Option Addr) (cdv ct : Value) (us : List Value), us.length = ps.length → bindArgs (PySem.W.fnOf x x (defArgs st) (defBody st) (defScope st) .none kV doc pm an cdv ct) ⟨us, []⟩ = pure (ps.zip us))
    (hl : ∀ os M o M', R os M o M' → os.length = ps.length) (body : ∀ os M o M', R os M o M' → o = .dat .non ∧ ∃ E', SB (mkC g N st k) (defBody st) (pad N os) M (.nx E' M')) : FN g x (k + 1) R := by
  obtain ⟨f, fd, F, hm⟩ := T.fn
  refine ⟨f, fd, ps, F.ok (N := N) S (fun vs H Q E h => ?_) (fun cdv A outer s H vs Q E hr h => ?_), hm, F.kp, F.binds hb⟩
  · obtain ⟨I, adr, os, M, o, M', r, _, _, v, _⟩ := h
    rw [← v.length]
    exact hl _ _ _ _ r
  · obtain ⟨I, adr, os, M, o, M', r, ex, sto, v, q⟩ := h
    obtain ⟨rfl, E', hB⟩ := body os M o M' r
    refine ⟨UB (mkC g N st k) (defBody st), ub ⟨rfl, rfl, rfl, rfl, rfl, rfl, rfl, rfl, hr, PassesOwn.never, takes0, fun _ _ => rfl, fun _ _ z => (by cases z), ⟨_, _, rfl, S.gen, S.co, rfl, rfl⟩⟩ _, ?_⟩
    refine hB I H adr (L2.start N vs) _ ⟨ex, sto, ?_, fun i p ov h1 h2 => ?_⟩ fun I' H' adr' σ' s' g' => q .non I' H' adr' s'.ex s'.sto g' .non
    · unfold pad L2.start
      rw [List.length_append, List.length_append, List.length_map, List.length_replicate, List.length_replicate, v.length]
    · unfold pad at h1
      unfold L2.start at h2
      by_cases hi : i < os.length
      · rw [List.getElem?_append_left hi] at h1
        obtain ⟨w, e1, e2⟩ := v.get h1
        rw [List.getElem?_append_left (by rw [List.length_map, ← v.length]; exact hi), List.getElem?_map, e1] at h2
        cases h2
        exact e2
      · rw [List.getElem?_append_right (Nat.le_of_not_lt hi)] at h1
        have hp : p = .no := List.eq_of_mem_replicate (List.mem_of_getElem? h1)
        subst hp
        cases ov with
        | none => rfl
        | some w => exact True.intro
end
end Ab
/-! Ab: kinds of data, rows and tables. -/
namespace Ab
open PySem PySem.Spec PyProof.Rows L2
variable [TabCtx]

def D.isInt : D → Bool
  | .int _ => true
  | .bl _ => true
  | _ => false
def D.isBl : D → Bool
  | .bl _ => true
  | _ => false
def D.isStr : D → Bool
  | .str _ => true
  | _ => false
def D.isTup : D → Bool
  | .tup _ => true
  | _ => false
def D.isLst : D → Bool
  | .lst _ => true
  | _ => false
def D.isNum : D → Bool
  | .int _ => true
  | _ => false
theorem kit_int : ∀ {d : D}, kitB d.ty "int" = some d.isInt
  | .non => (by decide +kernel : kitB "NoneType" "int" = some false)
  | .bl _ => (by decide +kernel : kitB "bool" "int" = some true)
  | .int _ => (by decide +kernel : kitB "int" "int" = some true)
  | .str _ => (by decide +kernel : kitB "str" "int" = some false)
  | .tup _ => (by decide +kernel : kitB "tuple" "int" = some false)
  | .lst _ => (by decide +kernel : kitB "list" "int" = some false)
  | .dct _ _ => (by decide +kernel : kitB "dict" "int" = some false)
theorem kit_bool : ∀ {d : D}, kitB d.ty "bool" = some d.isBl
  | .non => (by decide +kernel : kitB "NoneType" "bool" = some false)
  | .bl _ => (by decide +kernel : kitB "bool" "bool" = some true)
  | .int _ => (by decide +kernel : kitB "int" "bool" = some false)
  | .str _ => (by decide +kernel : kitB "str" "bool" = some false)
  | .tup _ => (by decide +kernel : kitB "tuple" "bool" = some false)
  | .lst _ => (by decide +kernel : kitB "list" "bool" = some false)
  | .dct _ _ => (by decide +kernel : kitB "dict" "bool" = some false)
theorem kit_str : ∀ {d : D}, kitB d.ty "str" = some d.isStr
  | .non => (by decide +kernel : kitB "NoneType" "str" = some false)
  | .bl _ => (by decide +kernel : kitB "bool" "str" = some false)
  | .int _ => (by decide +kernel : kitB "int" "str" = some false)
  | .str _ => (by decide +kernel : kitB "str" "str" = some true)
  | .tup _ => (by decide +kernel : kitB "tuple" "str" = some false)
  | .lst _ => (by decide +kernel : kitB "list" "str" = some false)
  | .dct _ _ => (by decide +kernel : kitB "dict" "str" = some false)
theorem kit_tuple : ∀ {d : D}, kitB d.ty "tuple" = some d.isTup
  | .non => (by decide +kernel : kitB "NoneType" "tuple" = some false)
  | .bl _ => (by decide +kernel : kitB "bool" "tuple" = some false)
  | .int _ => (by decide +kernel : kitB "int" "tuple" = some false)
  | .str _ => (by decide +kernel : kitB "str" "tuple" = some false)
  | .tup _ => (by decide +kernel : kitB "tuple" "tuple" = some true)
  | .lst _ => (by decide +kernel : kitB "list" "tuple" = some false)
  | .dct _ _ => (by decide +kernel : kitB "dict" "tuple" = some false)
theorem kit_list : ∀ {d : D}, kitB d.ty "list" = some d.isLst
  | .non => (by decide +kernel : kitB "NoneType" "list" = some false)
  | .bl _ => (by decide +kernel : kitB "bool" "list" = some false)
  | .int _ => (by decide +kernel : kitB "int" "list" = some false)
  | .str _ => (by decide +kernel : kitB "str" "list" = some false)
  | .tup _ => (by decide +kernel : kitB "tuple" "list" = some false)
  | .lst _ => (by decide +kernel : kitB "list" "list" = some true)
  | .dct _ _ => (by decide +kernel : kitB "dict" "list" = some false)
section
variable {C : Cc} {E : List O} {M M1 M2 M' : Mem} {o : O} {a b : Expr} {pos p pt : Pos} {d : D} {x T : Str} {i j : Int} {k : Bool}
theorem EV.isInt (h : EV C a E M (.dat d) M') (hm : Bt C.g "isinstance") (hT : Bt C.g "int") (hx : x = "isinstance" := by rfl) (hy : T = "int" := by rfl) (hg : C.sc.names.lookup x = some .globalImplicit := by rfl) (hgT : C.sc.names.lookup T = some .globalImplicit := by rfl) (hs : ∀ env, starEach [a, .Name T pt] env = (false, eval a env) :: starEach [.Name T pt] env := by intro _; rfl) : EV C (.Call (.Name x p) [a, .Name T pt] [] pos) E M (.dat (.bl d.isInt)) M' := by
  subst hx hy; exact EV.isi h hm hT bv_int kit_int rfl hg hgT (by decide) (by decide) (by decide) (by decide) hs
theorem EV.isBool (h : EV C a E M (.dat d) M') (hm : Bt C.g "isinstance") (hT : Bt C.g "bool") (hx : x = "isinstance" := by rfl) (hy : T = "bool" := by rfl) (hg : C.sc.names.lookup x = some .globalImplicit := by rfl) (hgT : C.sc.names.lookup T = some .globalImplicit := by rfl) (hs : ∀ env, starEach [a, .Name T pt] env = (false, eval a env) :: starEach [.Name T pt] env := by intro _; rfl) : EV C (.Call (.Name x p) [a, .Name T pt] [] pos) E M (.dat (.bl d.isBl)) M' := by
  subst hx hy; exact EV.isi h hm hT bv_bool kit_bool rfl hg hgT (by decide) (by decide) (by decide) (by decide) hs
theorem EV.isStr (h : EV C a E M (.dat d) M') (hm : Bt C.g "isinstance") (hT : Bt C.g "str") (hx : x = "isinstance" := by rfl) (hy : T = "str" := by rfl) (hg : C.sc.names.lookup x = some .globalImplicit := by rfl) (hgT : C.sc.names.lookup T = some .globalImplicit := by rfl) (hs : ∀ env, starEach [a, .Name T pt] env = (false, eval a env) :: starEach [.Name T pt] env := by intro _; rfl) : EV C (.Call (.Name x p) [a, .Name T pt] [] pos) E M (.dat (.bl d.isStr)) M' := by
  subst hx hy; exact EV.isi h hm hT bv_str kit_str rfl hg hgT (by decide) (by decide) (by decide) (by decide) hs
theorem EV.isTuple (h : EV C a E M (.dat d) M') (hm : Bt C.g "isinstance") (hT : Bt C.g "tuple") (hx : x = "isinstance" := by rfl) (hy : T = "tuple" := by rfl) (hg : C.sc.names.lookup x = some .globalImplicit := by rfl) (hgT : C.sc.names.lookup T = some .globalImplicit := by rfl) (hs : ∀ env, starEach [a, .Name T pt] env = (false, eval a env) :: starEach [.Name T pt] env := by intro _; rfl) : EV C (.Call (.Name x p) [a, .Name T pt] [] pos) E M (.dat (.bl d.isTup)) M' := by
  subst hx hy; exact EV.isi h hm hT bv_tuple kit_tuple rfl hg hgT (by decide) (by decide) (by decide) (by decide) hs
theorem EV.isList (h : EV C a E M (.dat d) M') (hm : Bt C.g "isinstance") (hT : Bt C.g "list") (hx : x = "isinstance" := by rfl) (hy : T = "list" := by rfl) (hg : C.sc.names.lookup x = some .globalImplicit := by rfl) (hgT : C.sc.names.lookup T = some .globalImplicit := by rfl) (hs : ∀ env, starEach [a, .Name T pt] env = (false, eval a env) :: starEach [.Name T pt] env := by intro _; rfl) : EV C (.Call (.Name x p) [a, .Name T pt] [] pos) E M (.dat (.bl d.isLst)) M' := by
  subst hx hy; exact EV.isi h hm hT bv_list kit_list rfl hg hgT (by decide) (by decide) (by decide) (by decide) hs
end
/-- built-in names that stand -/
structure Bs (g : Pg) : Prop where
  len : Bt g "len"
  sum : Bt g "sum"
  all : Bt g "all"
  any : Bt g "any"
  abs : Bt g "abs"
  min : Bt g "min"
  max : Bt g "max"
  int : Bt g "int"
  bool : Bt g "bool"
  str : Bt g "str"
  tuple : Bt g "tuple"
  list : Bt g "list"
  range : Bt g "range"
  zip : Bt g "zip"
  enumerate : Bt g "enumerate"
  isinstance : Bt g "isinstance"
  reversed : Bt g "reversed"
  sorted : Bt g "sorted"

/-! ### relations -/
def P1 (F : D → D → Prop) : Rel := fun os M o M' => ∃ d r, os = [.dat d] ∧ M = [] ∧ o = .dat r ∧ M' = [] ∧ F d r
def P2 (F : D → D → D → Prop) : Rel := fun os M o M' => ∃ d e r, os = [.dat d, .dat e] ∧ M = [] ∧ o = .dat r ∧ M' = [] ∧ F d e r
def P3 (F : D → D → D → D → Prop) : Rel := fun os M o M' => ∃ d e f r, os = [.dat d, .dat e, .dat f] ∧ M = [] ∧ o = .dat r ∧ M' = [] ∧ F d e f r
section
variable {C : Cc} {E : List O} {M M1 M2 M3 M' : Mem} {a b c : Expr} {pos p : Pos} {d e f r : D} {x : Str} {k : Nat}
theorem FN.mk1 {g : Pg} {st : Stmt} {N : List Str} {y : Str} {F : D → D → Prop} (T : TxtF g x st) (S : FnScope N [y] (defScope st))
    (hb : ∀ (kV doc pm : Value) (an : Option Addr) (cdv ct : Value) (us : List Value), us.length = 1 → bindArgs (PySem.W.fnOf x x (defArgs st) (defBody st) (defScope st) .none kV doc pm an cdv ct) ⟨us, []⟩ = pure ([y].zip us))
    (body : ∀ d r, F d r → SB (mkC g N st k) (defBody st) (pad N [.dat d]) [] (.rt (.dat r) [])) : FN g x (k + 1) (P1 F) :=
  FN.mk T S hb (fun os M o M' h => by obtain ⟨d, r, rfl, _⟩ := h; rfl) (fun os M o M' h => by obtain ⟨d, r, rfl, rfl, rfl, rfl, h⟩ := h; exact body d r h)
theorem FN.mk2 {g : Pg} {st : Stmt} {N : List Str} {y z : Str} {F : D → D → D → Prop} (T : TxtF g x st) (S : FnScope N [y, z] (defScope st))
    (hb : ∀ (kV doc pm : Value) (an : Option Addr) (cdv ct : Value) (us : List Value), us.length = 2 → bindArgs (PySem.W.fnOf x x (defArgs st) (defBody st) (defScope st) .none kV doc pm an cdv ct) ⟨us, []⟩ = pure ([y, z].zip us))
    (body : ∀ d e r, F d e r → SB (mkC g N st k) (defBody st) (pad N [.dat d, .dat e]) [] (.rt (.dat r) [])) : FN g x (k + 1) (P2 F) :=
  FN.mk T S hb (fun os M o M' h => by obtain ⟨d, e, r, rfl, _⟩ := h; rfl) (fun os M o M' h => by obtain ⟨d, e, r, rfl, rfl, rfl, rfl, h⟩ := h; exact body d e r h)
theorem FN.mk3 {g : Pg} {st : Stmt} {N : List Str} {y z u : Str} {F : D → D → D → D → Prop} (T : TxtF g x st) (S : FnScope N [y, z, u] (defScope st))
    (hb : ∀ (kV doc pm : Value) (an : Option Addr) (cdv ct : Value) (us : List Value), us.length = 3 → bindArgs (PySem.W.fnOf x x (defArgs st) (defBody st) (defScope st) .none kV doc pm an cdv ct) ⟨us, []⟩ = pure ([y, z, u].zip us))
    (body : ∀ d e f r, F d e f r → SB (mkC g N st k) (defBody st) (pad N [.dat d, .dat e, .dat f]) [] (.rt (.dat r) [])) : FN g x (k + 1) (P3 F) :=
  FN.mk T S hb (fun os M o M' h => by obtain ⟨d, e, f, r, rfl, _⟩ := h; rfl) (fun os M o M' h => by obtain ⟨d, e, f, r, rfl, rfl, rfl, rfl, h⟩ := h; exact body d e f r h)
theorem EV.c1 {F : D → D → Prop} (H : FN C.g x k (P1 F)) (ha : EV C a E M (.dat d) M') (hF : F d r) (hk : Nat.ble k C.k = true := by rfl) (hg : C.sc.names.lookup x = some .globalImplicit := by rfl) (hdb : (x == ("__debug__" : Str)) = false := by decide) (he : ∀ env, starEach [a] env = (false, eval a env) :: starEach [] env := by intro _; rfl) : EV C (.Call (.Name x p) [a] [] pos) E M (.dat r) M' :=
  EV.call (ds := [d]) H (EA.cons ha EA.nil he) ⟨d, r, rfl, rfl, rfl, rfl, hF⟩ hk hg hdb he (fun _ => rfl)
theorem EV.c2 {F : D → D → D → Prop} (H : FN C.g x k (P2 F)) (ha : EV C a E M (.dat d) M1) (hb : EV C b E M1 (.dat e) M') (hF : F d e r) (hk : Nat.ble k C.k = true := by rfl) (hg : C.sc.names.lookup x = some .globalImplicit := by rfl) (hdb : (x == ("__debug__" : Str)) = false := by decide)
    (he : ∀ env, starEach [a, b] env = (false, eval a env) :: starEach [b] env := by intro _; rfl) (he2 : ∀ env, starEach [b] env = (false, eval b env) :: starEach [] env := by intro _; rfl) (hpl : ∀ env, (backTo pos (starEach [b] env)).any (·.1) = false := by intro _; rfl) : EV C (.Call (.Name x p) [a, b] [] pos) E M (.dat r) M' :=
  EV.call (ds := [d, e]) H (EA.cons ha (EA.cons hb EA.nil he2) he) ⟨d, e, r, rfl, rfl, rfl, rfl, hF⟩ hk hg hdb he hpl
theorem EV.c3 {F : D → D → D → D → Prop} (H : FN C.g x k (P3 F)) (ha : EV C a E M (.dat d) M1) (hb : EV C b E M1 (.dat e) M2) (hc : EV C c E M2 (.dat f) M') (hF : F d e f r) (hk : Nat.ble k C.k = true := by rfl) (hg : C.sc.names.lookup x = some .globalImplicit := by rfl) (hdb : (x == ("__debug__" : Str)) = false := by decide)
    (he : ∀ env, starEach [a, b, c] env = (false, eval a env) :: starEach [b, c] env := by intro _; rfl) (he2 : ∀ env, starEach [b, c] env = (false, eval b env) :: starEach [c] env := by intro _; rfl) (he3 : ∀ env, starEach [c] env = (false, eval c env) :: starEach [] env := by intro _; rfl) (hpl : ∀ env, (backTo pos (starEach [b, c] env)).any (·.1) = false := by intro _; rfl) : EV C (.Call (.Name x p) [a, b, c] [] pos) E M (.dat r) M' :=
  EV.call (ds := [d, e, f]) H (EA.cons ha (EA.cons hb (EA.cons hc EA.nil he3) he2) he) ⟨d, e, f, r, rfl, rfl, rfl, rfl, hF⟩ hk hg hdb he hpl
end

/-- a def that falls through -/
theorem FN.mkN1 {g : Pg} {st : Stmt} {N : List Str} {y x : Str} {k : Nat} {F : D → D → Prop} (T : TxtF g x st) (S : FnScope N [y] (defScope st))
    (hb : ∀ (kV doc pm : Value) (an : Option Addr) (cdv ct : Value) (us : List Value), us.length = 1 → bindArgs (PySem.W.fnOf x x (defArgs st) (defBody st) (defScope st) .none kV doc pm an cdv ct) ⟨us, []⟩ = pure ([y].zip us))
    (body : ∀ d r, F d r → r = .non ∧ ∃ E', SB (mkC g N st k) (defBody st) (pad N [.dat d]) [] (.nx E' [])) : FN g x (k + 1) (P1 F) := FN.mkNx T S hb (fun os M o M' h => by obtain ⟨d, r, rfl, _⟩ := h; rfl) (fun os M o M' h => by
  obtain ⟨d, r, rfl, rfl, rfl, rfl, h⟩ := h
  obtain ⟨e1, h1⟩ := body d r h
  exact ⟨congrArg O.dat e1, h1⟩)
theorem FN.mkN3 {g : Pg} {st : Stmt} {N : List Str} {y z u x : Str} {k : Nat} {F : D → D → D → D → Prop} (T : TxtF g x st) (S : FnScope N [y, z, u] (defScope st))
    (hb : ∀ (kV doc pm : Value) (an : Option Addr) (cdv ct : Value) (us : List Value), us.length = 3 → bindArgs (PySem.W.fnOf x x (defArgs st) (defBody st) (defScope st) .none kV doc pm an cdv ct) ⟨us, []⟩ = pure ([y, z, u].zip us))
    (body : ∀ d e f r, F d e f r → r = .non ∧ ∃ E', SB (mkC g N st k) (defBody st) (pad N [.dat d, .dat e, .dat f]) [] (.nx E' [])) : FN g x (k + 1) (P3 F) := FN.mkNx T S hb (fun os M o M' h => by obtain ⟨d, e, f, r, rfl, _⟩ := h; rfl) (fun os M o M' h => by
  obtain ⟨d, e, f, r, rfl, rfl, rfl, rfl, h⟩ := h
  obtain ⟨e1, h1⟩ := body d e f r h
  exact ⟨congrArg O.dat e1, h1⟩)

/-! ### rows and tables -/
abbrev tV (v : List Int) : D := .tup (v.map .int)
abbrev tM (m : List (List Int)) : D := .tup (m.map tV)
abbrev lV (v : List Int) : D := .lst (v.map .int)
abbrev lM (m : List (List Int)) : D := .lst (m.map lV)
end Ab
/-! Ab: cells lent to be read; the script; members. -/
namespace Ab
open PySem PySem.Spec PyProof.Rows L2
variable [TabCtx]

/-! ### a cell seen as data -/
mutual
inductive View (M : Mem) : O → D → Prop
  | dat (d : D) : View M (.dat d) d
  | cel {k : Nat} {os : List O} {ds : List D} (h : M[k]? = some (some os)) (r : Views M os ds) : View M (.adr k) (.lst ds)
inductive Views (M : Mem) : List O → List D → Prop
  | nil : Views M [] []
  | cons {o : O} {os : List O} {d : D} {ds : List D} (h : View M o d) (r : Views M os ds) : Views M (o :: os) (d :: ds)
end
mutual
inductive NoL : D → Prop
  | non : NoL .non
  | bl (b : Bool) : NoL (.bl b)
  | int (i : Int) : NoL (.int i)
  | str (s : Str) : NoL (.str s)
  | tup {ds : List D} (h : NoLs ds) : NoL (.tup ds)
inductive NoLs : List D → Prop
  | nil : NoLs []
  | cons {d : D} {ds : List D} (h : NoL d) (r : NoLs ds) : NoLs (d :: ds)
end
theorem NoLs.all : ∀ {ds : List D}, (∀ d ∈ ds, NoL d) → NoLs ds
  | [], _ => .nil
  | _ :: _, h => .cons (h _ List.mem_cons_self) (NoLs.all fun d hd => h d (List.mem_cons_of_mem _ hd))
theorem NoL.ints (v : List Int) : NoL (tV v) := .tup (NoLs.all fun d hd => by
  obtain ⟨i, _, rfl⟩ := List.mem_map.mp hd
  exact .int i)
theorem NoL.mat (m : List (List Int)) : NoL (tM m) := .tup (NoLs.all fun d hd => by
  obtain ⟨i, _, rfl⟩ := List.mem_map.mp hd
  exact NoL.ints i)
theorem Views.ints {M : Mem} : ∀ v : List D, Views M (v.map .dat) v
  | [] => .nil
  | _ :: v => .cons (.dat _) (Views.ints v)
mutual
theorem rep_back {I I' : Hp} (f : ∀ a xs, I a = some (.tup xs) → I' a = some (.tup xs)) : ∀ {d : D} {v : V}, NoL d → Rep I d v → Rep I' d v
  | _, _, .non, .non => .non
  | _, _, .bl _, .bl b => .bl b
  | _, _, .int _, .int i => .int i
  | _, _, .str _, .str s => .str s
  | _, _, .tup n, .tup h r => .tup (f _ _ h) (reps_back f n r)
theorem reps_back {I I' : Hp} (f : ∀ a xs, I a = some (.tup xs) → I' a = some (.tup xs)) : ∀ {ds : List D} {vs : List V}, NoLs ds → Reps I ds vs → Reps I' ds vs
  | _, _, .nil, .nil => .nil
  | _, _, .cons n m, .cons h r => .cons (rep_back f n h) (reps_back f m r)
end
mutual
theorem view_rep {I I' H : Hp} {adr : List Addr} {M : Mem} (s : Sto I H adr M) (e : Ex I I') (f : ∀ (k : Nat) (a : Addr) (os : List O), adr[k]? = some a → M[k]? = some (some os) → I' a = H a) : ∀ {o : O} {d : D} {v : V}, View M o d → Vo I adr o v → Rep I' d v
  | _, _, _, .dat d, h => Rep.mono e h
  | _, _, _, .cel (k := k) hm r, h => by
    obtain ⟨a, h1, rfl⟩ := h
    obtain ⟨_, xs, h2, h3⟩ := s.cell k a _ h1 hm
    exact .lst ((f k a _ h1 hm).trans h2) (views_rep s e f r h3)
theorem views_rep {I I' H : Hp} {adr : List Addr} {M : Mem} (s : Sto I H adr M) (e : Ex I I') (f : ∀ (k : Nat) (a : Addr) (os : List O), adr[k]? = some a → M[k]? = some (some os) → I' a = H a) : ∀ {os : List O} {ds : List D} {vs : List V}, Views M os ds → Vs I adr os vs → Reps I' ds vs
  | _, _, _, .nil, .nil => .nil
  | _, _, _, .cons h r, .cons q w => .cons (view_rep s e f h q) (views_rep s e f r w)
end
open Classical in
theorem ev_lend {R : Rel} {E : List O} {M M1 : Mem} {os : List O} {ds : List D} {d : D} {ta : TA} {E' : XK} (ha : Ea ta E M os M1) (hv : Views M1 os ds) (hR : R (ds.map .dat) [] (.dat d) []) (hn : NoL d) :
    Ev (tCall (spR R) [] E' ta) E M (.dat d) M1 := fun I H adr σ Q s q => ha I H adr σ _ s fun vs I1 H1 adr1 s1 g1 v1 => by
  let L : Addr → Prop := fun p => ∃ (k : Nat) (os : List O), adr1[k]? = some p ∧ M1[k]? = some (some os)
  let J : Hp := fun p => if L p then H1 p else I1 p
  have eJ : Ex I1 J := fun p o h => by
    show (if L p then H1 p else I1 p) = some o
    split
    · exact s1.ex p o h
    · exact h
  have eH : Ex J H1 := fun p o h => by
    have h' : (if L p then H1 p else I1 p) = some o := h
    split at h'
    · exact h'
    · exact s1.ex p o h'
  have fJ : ∀ (k : Nat) (a : Addr) (os : List O), adr1[k]? = some a → M1[k]? = some (some os) → J a = H1 a := fun k a os h1 h2 => if_pos ⟨k, os, h1, h2⟩
  have aJ : ∀ b u, J b = some u → NT u := fun b u h => by
    have h' : (if L b then H1 b else I1 b) = some u := h
    split at h'
    · rename_i hl
      obtain ⟨k, os, h1, h2⟩ := hl
      obtain ⟨_, xs, h4, _⟩ := s1.sto.cell k b os h1 h2
      rw [h4] at h'
      cases h'
      exact NT.lst
    · exact s1.sto.amb.nt b u h'
  show spR R (vs ++ []) H1 Q E'
  rw [List.append_nil]
  refine ⟨J, [], ds.map .dat, [], .dat d, [], hR, eH, ⟨rfl, List.nodup_nil, fun k a os h1 _ => by simp at h1, fun k a h1 => by simp at h1, s1.sto.amb.same aJ⟩, Vs.reps (views_rep s1.sto eJ fJ hv v1), fun z I2 H2 adr2 ex2 sto2 g2 v2 => ?_⟩
  let I3 : Hp := fun p => if L p then none else I2 p
  have nI : ∀ p, L p → I1 p = none := fun p hp => by
    obtain ⟨k, os, h1, h2⟩ := hp
    exact (s1.sto.cell k p os h1 h2).1
  have e3 : Ex I1 I3 := fun p o h => by
    have hp : ¬ L p := fun hl => by rw [nI p hl] at h; cases h
    show (if L p then none else I2 p) = some o
    rw [if_neg hp]
    exact g2.ex p o (eJ p o h)
  have e3H : Ex I3 H2 := fun p o h => by
    have h' : (if L p then none else I2 p) = some o := h
    split at h'
    · cases h'
    · exact ex2 p o h'
  have keep : ∀ p u, H1 p = some u → NT u → H2 p = some u := fun p u h n => g2.keep p u h n (by simp)
  have g3 : Grow I1 H1 adr1 I3 H2 adr1 := ⟨e3, ⟨[], by simp, by simp⟩, fun p u h n _ => keep p u h n, g2.dom, fun p u h n h2 h3 => by
    have hp : ¬ L p := fun hl => by
      obtain ⟨k, os, h4, _⟩ := hl
      exact h3 (List.mem_of_getElem? h4)
    show (if L p then none else I2 p) = none
    rw [if_neg hp]
    exact g2.out p u h n (by show (if L p then H1 p else I1 p) = none; rw [if_neg hp]; exact h2) (by simp), g2.code⟩
  have t3 : Sto I3 H2 adr1 M1 := ⟨s1.sto.len, s1.sto.nd, fun k a os h1 h2 => by
    obtain ⟨_, xs, h4, h5⟩ := s1.sto.cell k a os h1 h2
    exact ⟨if_pos ⟨k, os, h1, h2⟩, xs, keep a _ h4 NT.lst, h5.ext e3⟩, fun k a h => by
    obtain ⟨u, hu, n⟩ := s1.sto.dom k a h
    exact ⟨u, keep a u hu n, n⟩, sto2.amb.same fun b u h => by
    have h' : (if L b then none else I2 b) = some u := h
    split at h'
    · cases h'
    · exact sto2.amb.nt b u h'⟩
  refine q z I3 H2 adr1 (s1.mono g3 e3H t3) (g1.trans g3) (rep_back (fun a xs h => ?_) hn v2)
  have hp : ¬ L a := fun hl => by
    obtain ⟨k, os, h1, h2⟩ := hl
    obtain ⟨_, ys, h4, _⟩ := s1.sto.cell k a os h1 h2
    have h5 := g2.ex a _ ((fJ k a os h1 h2).trans h4)
    rw [h] at h5
    cases h5
  show (if L a then none else I2 a) = _
  rw [if_neg hp]
  exact h
section
variable {C : Cc} {E E1 E2 E' : List O} {M M1 M2 M3 M' : Mem} {o o1 o2 o3 : O} {os : List O} {e a b c : Expr} {es : List Expr} {pos pos' p p2 pos2 : Pos} {d d1 d2 : D} {i j : Int} {n : Nat} {k k' : Bool} {r : Out} {body : List Stmt} {x y : Str} {ds : List D}
theorem EV.lend {R : Rel} {kf : Nat} {ds : List D} (F : FN C.g x kf R) (ha : EA C (e :: es) E M os M1) (hv : Views M1 os ds) (hR : R (ds.map .dat) [] (.dat d) []) (hn : NoL d) (hk : Nat.ble kf C.k = true := by rfl)
    (hg : C.sc.names.lookup x = some .globalImplicit := by rfl) (hdb : (x == ("__debug__" : Str)) = false := by decide) (he : ∀ env, starEach (e :: es) env = (false, eval e env) :: starEach es env := by intro _; rfl) (hpl : ∀ env, (backTo pos (starEach es env)).any (·.1) = false := by intro _; rfl) :
    EV C (.Call (.Name x p) (e :: es) [] pos) E M (.dat d) M1 := by
  obtain ⟨f, fd, ps, F, hm, hkp, hb⟩ := F
  refine EV.mk (t := tCall (spR R) [] E0 (UA C (e :: es))) (fun X hX => ?_) (ev_lend ha hv hR hn)
  refine pe_call (k := kf) (f := f) (fd := fd) (ps := ps) (by rw [hX.P, hX.w, hX.K, hX.mg, hX.base]; exact F) (hX.room.mono (Nat.le_of_ble_eq_true hk)) (by show X.env.scope.names.lookup x = _; rw [hX.sc]; exact hg) (by rw [hX.mg]; exact hm) (by rw [hX.K]; exact hkp) (by rw [hX.K]; exact hb) .nil pass0 (ua hX _) hdb (he X.env) (hpl X.env)
/-- a def that makes cells -/
theorem EV.callM {R : Rel} {kf : Nat} {ds : List D} {o0 : O} {M0' : Mem} (F : FN C.g x kf R) (ha : EA C (e :: es) E M (ds.map .dat) M1) (hR : R (ds.map .dat) [] o0 M0') (hq : o = o0.ren (fun k => M1.length + k)) (hM : M2 = M1 ++ M0'.map fun c => c.map fun ps => ps.map (·.ren fun k => M1.length + k)) (hk : Nat.ble kf C.k = true := by rfl)
    (hg : C.sc.names.lookup x = some .globalImplicit := by rfl) (hdb : (x == ("__debug__" : Str)) = false := by decide) (he : ∀ env, starEach (e :: es) env = (false, eval e env) :: starEach es env := by intro _; rfl) (hpl : ∀ env, (backTo pos (starEach es env)).any (·.1) = false := by intro _; rfl) :
    EV C (.Call (.Name x p) (e :: es) [] pos) E M o M2 := by
  have er : rho [] M1.length = fun k => M1.length + k := by
    funext k
    show M1.length + (k - 0) = _
    rw [Nat.sub_zero]
  subst hq hM
  rw [← er]
  refine EV.callG (ι := []) F ha hR (by rw [ren_dat]) ⟨rfl, List.nodup_nil, ?_, fun i k h => by simp at h, fun k os h => ?_⟩ hk hg hdb he hpl
  · rw [List.length_append, List.length_map]
    rfl
  · by_cases hk : k < M1.length
    · rw [List.getElem?_append_left hk] at h
      exact .inl ⟨by simp, h⟩
    · rw [List.getElem?_append_right (Nat.le_of_not_lt hk), List.getElem?_map] at h
      cases hc : M0'[k - M1.length]? with
      | none => rw [hc] at h; cases h
      | some c =>
        rw [hc] at h
        cases c with
        | none => cases h
        | some ps =>
          refine .inr ⟨k - M1.length, ps, ?_, .inr (Nat.zero_le _), hc, (Option.some.inj (Option.some.inj h)).symm⟩
          rw [er]
          show M1.length + (k - M1.length) = k
          omega

/-! ### the script -/
def Scr (K : PySem.W.Frag) (o : O) (xs : List V) : Prop := ∃ (a : Addr) (u : Option HO), o = .scr a u ∧ ∀ H : Hp, (∀ h, u = some h → H a = some h) → SqL K H a xs
theorem scr_sq {K : PySem.W.Frag} {xs : List V} {I H : Hp} {adr : List Addr} {v : V} (h : Scr K o xs) (hv : Vo I adr o v) (e : Ex I H) : ∃ a, v = .ref a ∧ SqL K H a xs := by
  obtain ⟨a, u, rfl, q⟩ := h
  exact ⟨a, hv.1, q H fun o' ho => e _ _ (hv.2 o' ho)⟩
theorem reps_ints {I : Hp} : ∀ ns : List Int, Reps I (ns.map D.int) (ns.map V.int)
  | [] => .nil
  | n :: ns => .cons (.int n) (reps_ints ns)
theorem EV.ixS {ns : List Int} (ha : EV C a E M o M1) (hb : EV C b E M1 (.dat (.int i)) M') (hs : Scr C.g.K o (ns.map V.int)) (h : atI (ns.map D.int) i = some d) (hp : PlainIx b := by exact fun _ _ => rfl) : EV C (.Subscript a b pos) E M (.dat d) M' :=
  EV.mk (t := tOp (rIx C.g.K) (UE C a) (UE C b)) (fun X hX => by
    have := pe_ix (pos := pos) ix_seq (ue hX a) (ue hX b) hp
    rw [hX.K] at this
    exact this) (ev_op ha hb fun I H adr σ E v w Q s hv hw q => by
      cases rep_int hw
      obtain ⟨p, rfl, hq⟩ := scr_sq hs hv s.ex
      obtain ⟨x, e1, e2⟩ := reps_atI (reps_ints (I := I) ns) h
      exact .inl ⟨p, _, i, x, rfl, rfl, hq, e1, q x I H adr s Grow.refl e2⟩)
theorem EV.slS {ns : List Int} {lo hi : Option Expr} {l u : Option Int} (ha : EV C a E M o M1) (hl : EO C lo E M1 l M2) (hh : EO C hi E M2 u M') (hs : Scr C.g.K o (ns.map V.int)) : EV C (.Subscript a (.Slice lo hi none p) pos) E M (.dat (.lst (cutD (ns.map D.int) l u))) M' :=
  EV.mk (t := tSl (rSlL C.g.K) (UE C a) (UO C lo) (UO C hi)) (fun X hX => by
    have := pe_slice (p2 := p) (pos := pos) (sl_list (X := X)) (ue hX a) (uo hX lo) (uo hX hi)
    rw [hX.K] at this
    exact this) fun I H adr σ Q s q => ha I H adr σ _ s fun v I1 H1 adr1 s1 g1 v1 => hl I1 H1 adr1 σ _ s1 fun I2 H2 adr2 s2 g2 => hh I2 H2 adr2 σ _ s2 fun I3 H3 adr3 s3 g3 => by
      obtain ⟨b, rfl, hq⟩ := scr_sq hs ((v1.mono g2).mono g3) s3.ex
      refine ⟨b, _, rfl, hq, fun p hp => ?_⟩
      obtain ⟨s4, g4, r4⟩ := s3.lst hp (reps_cut (reps_ints (I := I3) ns) l u)
      exact q _ _ _ _ s4 (((g1.trans g2).trans g3).trans g4) r4

/-! ### members -/
def inI (i : Int) (ns : List Int) : Bool := ns.any fun n => n == i
theorem inV_ints {i : Int} : ∀ ns : List Int, inV (.int i) (ns.map V.int) = inI i ns
  | [] => rfl
  | n :: ns => by
    show (eqV (.int n) (.int i) || inV (.int i) (ns.map V.int)) = (n == i || inI i ns)
    rw [inV_ints ns]
    rfl
theorem flat_ints (ns : List Int) : (ns.map V.int).all flatV = true := by
  rw [List.all_map, List.all_eq_true]
  intro x _
  rfl
theorem CS.inI {ns : List Int} : CS C .In (.dat (.int i)) (.dat (.lst (ns.map .int))) M (.dat (.bl (inI i ns))) M := ⟨rIn C.g.K false, fun X hX => by
  have := op_in_seq (X := X)
  rw [hX.K] at this
  exact this, fun I H adr σ E v w Q s hv hw q => by
  cases rep_int hv
  cases (show Rep I (.lst (ns.map .int)) w from hw) with
  | @lst p xs _ hp hr =>
    have e := reps_int hr
    subst e
    refine ⟨p, _, rfl, .inl (.inl (.inl (s.ex _ _ hp))), rfl, flat_ints ns, ?_⟩
    show Q (.bl (inV _ _)) H
    rw [inV_ints]
    exact q _ I H adr s Grow.refl (.bl _)⟩
theorem CS.notInI {ns : List Int} : CS C .NotIn (.dat (.int i)) (.dat (.lst (ns.map .int))) M (.dat (.bl (!Ab.inI i ns))) M := ⟨rIn C.g.K true, fun X hX => by
  have := op_notIn_seq (X := X)
  rw [hX.K] at this
  exact this, fun I H adr σ E v w Q s hv hw q => by
  cases rep_int hv
  cases (show Rep I (.lst (ns.map .int)) w from hw) with
  | @lst p xs _ hp hr =>
    have e := reps_int hr
    subst e
    refine ⟨p, _, rfl, .inl (.inl (.inl (s.ex _ _ hp))), rfl, flat_ints ns, ?_⟩
    show Q (.bl (!inV _ _)) H
    rw [inV_ints]
    exact q _ I H adr s Grow.refl (.bl _)⟩
end
end Ab
/-! Ab: enumerate over a tuple. -/
namespace Ab
open PySem PySem.Spec PyProof.Rows L2
variable [TabCtx]

theorem enum_new1 {v : Value} {ob : Obj} {Ho : Heap → Prop} (B : Begins v ob Ho) :
    Meets (Builtin.«enumerate.__new__» ⟨[.type "enumerate", v], []⟩) (fun _ R s => Ho s.heap ∧ R (.ok (.ret (.ref (s.heap.push ob).objs.size))) { s with heap := (s.heap.push ob).push { cls := .type "enumerate", data := .fields #[.none, .bool false, .ref s.heap.objs.size, rawInt 0, .none, .none] } }) :=
  .of_wp fun prog w A R s h => by
    obtain ⟨hp, gl, d, tk, os⟩ := s
    obtain ⟨h1, h⟩ := h
    have hsub := sub_enumerate
    have q1 : ∀ {A' : Around} {E' : Value → Shared → Prop} {Q' : Value → Shared → Prop}, Q' (.ref hp.objs.size) ⟨hp.push ob, gl, d, tk, os⟩ → wpAny (model prog w) A' (pyIter v) Q' E' ⟨hp, gl, d, tk, os⟩ := fun q => B.iter prog w _ _ ⟨hp, gl, d, tk, os⟩ _ h1 q
    wp_walk using q1
    refine wpAny_stack_any fun st => wpAny_pure ?_
    split
    · rename_i cc _ _ _ _ _
      cases (cc == Value.type "enumerate") <;> (wp_walk using q1; exact ⟨_, rfl, h⟩)
    · wp_walk using q1
      exact ⟨_, rfl, h⟩
section
variable {prog : Program} {w : World} {A : Around} {E : Value → Shared → Prop} {s : Shared}
theorem enum_call1 {v : Value} {ob : Obj} {Ho : Heap → Prop} {Q : Value → Shared → Prop} (B : Begins v ob Ho) (h1 : Ho s.heap)
    (h : ∀ h', IsEnum h' (s.heap.objs.size + 1) s.heap.objs.size 0 .none → h'.get? s.heap.objs.size = some ob → (∀ b o, s.heap.get? b = some o → h'.get? b = some o) → Q (.ref (s.heap.objs.size + 1)) { s with heap := h' }) : wpAny (model prog w) A (call (.type "enumerate") [v]) Q E s := by
  refine callType_new F.called_enumerate (by decide) (F.typeCall_enumerate_1 _) (F.newCall_enumerate_1 _) (fun obj => F.args_object_init_2 obj _) F.entry_enumerate_new (enum_new1 B) ⟨h1, ?_⟩
  have hz : (s.heap.push ob).objs.size = s.heap.objs.size + 1 := Heap.size_push ..
  show _ ∧ _
  rw [hz]
  have he : IsEnum ((s.heap.push ob).push { cls := .type "enumerate", data := .fields #[.none, .bool false, .ref s.heap.objs.size, rawInt 0, .none, .none] }) (s.heap.objs.size + 1) s.heap.objs.size 0 .none := by
    have z := Heap.get?_push_size (s.heap.push ob) (o := { cls := .type "enumerate", data := .fields #[.none, .bool false, .ref s.heap.objs.size, rawInt 0, .none, .none] }) rfl
    rw [hz] at z
    exact z
  exact ⟨⟨_, he, rfl⟩, h _ he (Heap.get?_push_of_some _ (Heap.get?_push_size _ B.free)) fun b o x => Heap.get?_push_of_some _ (Heap.get?_push_of_some _ x)⟩
end
def IteT (K : PySem.W.Frag) (a : Addr) : It :=
  ⟨fun i H => ∃ (xs : List V) (x : V), SqT K H a xs ∧ xs[i]? = some x, fun i H v H' => ∃ T x, v = .ref T ∧ H T = none ∧ H' = upd H T (.tup [.int (i : Nat), x]) ∧ ∀ xs, SqT K H a xs → xs[i]? = some x, fun i H => ∃ xs : List V, SqT K H a xs ∧ xs.length = i⟩
theorem apart_t {h : Heap} {a it : Addr} {i : Nat} {its : Array Value} (p : h.IsTuple a its) (q : h.IsTupleIter it a i) : a ≠ it := fun e => by
  subst e
  obtain ⟨o1, e1, c1, _⟩ := p
  obtain ⟨o2, e2, c2, _⟩ := q
  rw [e1] at e2
  cases e2
  rw [c1] at c2
  exact absurd c2 (by decide)
theorem apart_e {h : Heap} {a e it : Addr} {i : Int} {its : Array Value} {old : Value} (p : h.IsTuple a its) (q : IsEnum h e it i old) : e ≠ a := fun z => by
  subst z
  obtain ⟨o1, e1, c1, _⟩ := p
  have q' : h.get? e = some _ := q
  rw [e1] at q'
  cases q'
  exact absurd (show Value.type "enumerate" = Value.type "tuple" from c1) (by decide)
theorem turn_enumT {P : Program} {w : World} {K : PySem.W.Frag} {elts : List Expr} {kk : Nat} {tpos : Pos} (a e it : Addr) :
    Turn P w K (.Tuple elts kk tpos) (IteT K a) [e, it] e (fun i h => (∃ old, IsEnum h e it ((i : Nat) : Int) old) ∧ h.IsTupleIter it a i ∧ e ≠ it) where
  mem := by simp
  obj := fun i h st b hb => by
    obtain ⟨⟨old, he⟩, ⟨o, ho, hc, hd⟩, _⟩ := st
    rcases (show b = e ∨ b = it by simpa using hb) with z | z
    · subst z
      exact ⟨_, he, fun v q => nomatch q⟩
    · subst z
      exact ⟨o, ho, fun v q => by rw [hd] at q; cases q⟩
  keep := fun i h h' st k => let ⟨⟨old, he⟩, hi, hne⟩ := st; ⟨⟨old, k e (by simp) _ he⟩, hi.at fun o q => k it (by simp) o q, hne⟩
  item := by
    intro X hP hw hK hc i pins s σ H E I hf st hg
    subst hP hw hK
    obtain ⟨⟨old, he⟩, hit, hne⟩ := st
    obtain ⟨xs, x, hq, hx⟩ := hg
    obtain ⟨its, rv, p, hz⟩ := I.tuple hq
    obtain ⟨u, hu, ru⟩ := rv.get hx
    have pt : s.heap.IsTuple a its.toArray := p
    have hel : e < s.heap.objs.size := Heap.lt_size he
    have hil : it < s.heap.objs.size := by obtain ⟨_, q, _⟩ := hit; exact Heap.lt_size q
    have hlen : i < its.toArray.size := by
      have := (List.getElem?_eq_some_iff.mp hu).1
      simpa using this
    have D := Draws.tuple (prog := X.prog) (w := X.w) (A := X.A.in1) (I.ok.hd hc) it a (apart_t pt hit) its.toArray
    refine wpAny_pyNext_enum_itemC D he ⟨hit, pt⟩ hlen hne (by simp [hne, apart_e pt he]) fun y h' tk hy ho hs' hT hsz hk => ?_
    have ey : y = u := by
      have hy' : its.toArray[i]? = some y := hy
      rw [List.getElem?_toArray, hu] at hy'
      exact (Option.some.inj hy').symm
    subst ey
    refine ⟨_, rfl, wpAny_letOwnedTupleGo_enum (s := { s with heap := h', toks := tk + 1 }) ho fun h'' he' sb => ?_⟩
    have hT2 : h''.get? s.heap.objs.size = some { cls := .type "tuple", data := .seq #[.int (i : Nat) tk, y] } := (sb.2 _ (Nat.ne_of_gt hel)).trans hT
    have new : ObjOk X.prog X.w (upd H s.heap.objs.size (.tup [.int (i : Nat), x])) h'' s.heap.objs.size (.tup [.int (i : Nat), x]) := ⟨by show 2 ≤ sizeLine; decide, [.int (i : Nat) tk, y], .cons ⟨_, rfl⟩ (.cons ru .nil), ⟨_, hT2, rfl, _, rfl⟩⟩
    have I1 : Inv X pins σ (upd H s.heap.objs.size (.tup [.int (i : Nat), x])) { s with heap := h'', toks := tk + 1 } :=
      I.turnedNew (ch := [e, it]) (fun b ob hb q => (sb.2 b (fun z => hb (by simp [z]))).trans (hk b ob (fun z => hb (by simp [z])) (fun z => hb (by simp [z])) q)) hf (Nat.le_refl _) new
    refine ⟨.ref s.heap.objs.size, _, I1, rfl, ⟨_, x, rfl, I.hok.fresh (Nat.le_refl _), rfl, fun ys hy => by rw [I.tuple_inj hy hq]; exact hx⟩, ⟨⟨y, ?_⟩, hs'.1.at fun o q => (sb.2 it (Ne.symm hne)).trans q, hne⟩, fun b hb => ?_⟩
    · rw [show ((i + 1 : Nat) : Int) = (i : Int) + 1 by omega]
      exact he'
    · have hb' : b < s.heap.objs.size := by
        rcases (show b = e ∨ b = it by simpa using hb) with z | z
        · exact z ▸ hel
        · exact z ▸ hil
      rw [upd_ne (Nat.ne_of_lt hb')]
      exact (hf b hb).1
  done := by
    intro X hP hw hK hc i pins s σ H E I hf st hg
    subst hP hw hK
    obtain ⟨⟨old, he⟩, hit, hne⟩ := st
    obtain ⟨xs, hq, hx⟩ := hg
    obtain ⟨its, rv, p, hz⟩ := I.tuple hq
    have pt : s.heap.IsTuple a its.toArray := p
    obtain ⟨f0, f1, f2, f3, f4, f5⟩ := hf it (by simp)
    have hl : its.toArray.size = i := by
      have := rv.length
      simp
      omega
    have D := Draws.tuple (prog := X.prog) (w := X.w) (A := X.A.in1) (I.ok.hd hc) it a (apart_t pt hit) its.toArray
    exact wpAny_pyNext_enum_endD D he ⟨hl.symm ▸ hit, pt⟩ fun h' eb => ⟨rfl, I.turned (t' := s.toks) (fun b o hb q => eb b o hb q) f0 f1 f3 f4 f5⟩
  self := fun A i s Q E st h => let ⟨⟨_, he⟩, _⟩ := st; wpAny_pyIter_enum he h
def iEnumT (K : PySem.W.Frag) (ta : TA) : TI := fun σ H R => ta σ H fun vs H1 => ∃ a xs, vs = [.ref a] ∧ SqT K H1 a xs ∧ R (IteT K a) H1
theorem pi_enumT {X : Cx} {e : Expr} {ta : TA} {p pos tpos : Pos} {elts : List Expr} {kk : Nat} (hg : Gl X "enumerate") (hm : X.mg "enumerate" = none) (ha : PA X [e] ta) (hs : starEach [e] X.env = [(false, eval e X.env)] := by rfl) : PI X (.Tuple elts kk tpos) (.Call (.Name "enumerate" p) [e] [] pos) (iEnumT X.K ta) := by
  refine ⟨fun pins s σ H R I h => Call_ (ld_blt I hg hm boot_enumerate (PyProof.Rows.callWith_type1 (thn (ha.run pos pins s σ H _ I h) fun us s1 ⟨vs, H1, I1, r1, q1⟩ => ?_) hs rfl))⟩
  obtain ⟨a, xs, ex, hq, q⟩ := q1
  subst ex
  cases r1 with
  | cons r rr =>
    cases rr
    cases r
    obtain ⟨its, rv, p', hz⟩ := I1.tuple hq
    have pt : s1.heap.IsTuple a its.toArray := p'
    refine enum_call1 (begins_tuple a its.toArray) pt fun h' he hit hk => wpAny_pyIter_enum he ?_
    have I2 : Inv X pins σ H1 { s1 with heap := h' } := I1.kept (t' := s1.toks) hk
    refine ⟨s1.heap.objs.size + 1, [s1.heap.objs.size + 1, s1.heap.objs.size], _, _, H1, rfl, I2, turn_enumT a (s1.heap.objs.size + 1) s1.heap.objs.size, ⟨⟨.none, he⟩, ⟨_, hit, rfl, rfl⟩, Nat.succ_ne_self _⟩, fun b hb => ?_, q⟩
    have hle : s1.heap.objs.size ≤ b := by
      rcases (show b = s1.heap.objs.size + 1 ∨ b = s1.heap.objs.size by simpa using hb) with z | z
      · rw [z]
        exact Nat.le_add_right _ _
      · exact Nat.le_of_eq z.symm
    exact I1.fpOk hle (I1.hok.fresh hle)
def atN (ds : List D) (i : Nat) : O := .dat (.tup [.int (i : Int), ds.getD i .non])
section
variable {C : Cc} {E : List O} {M M1 : Mem} {a : Expr} {pos p : Pos}
theorem EI.enum {ds : List D} {x : Str} {elts : List Expr} {kk : Nat} {tp : Pos} (h1 : EV C a E M (.dat (.tup ds)) M1) (hm : Bt C.g "enumerate") (hx : x = "enumerate" := by rfl) (hg : C.sc.names.lookup x = some .globalImplicit := by rfl) (hs : ∀ env, starEach [a] env = [(false, eval a env)] := by intro _; rfl) :
    EI C (.Tuple elts kk tp) (.Call (.Name x p) [a] [] pos) E M ds.length (atN ds) M1 tt := fun I H adr σ R s q => by
  subst hx
  refine ⟨iEnumT C.g.K (tCons (UE C a) tNil), fun X hX => by
    have := pi_enumT (tpos := tp) (elts := elts) (kk := kk) (p := p) (pos := pos) (X := X) (by show X.env.scope.names.lookup _ = _; rw [hX.sc]; exact hg) (by rw [hX.mg]; exact hm) (pa_cons (ue hX a) pa_nil (by rw [hs X.env]; rfl)) (hs X.env)
    rw [hX.K] at this
    exact this, h1 I H adr σ _ s fun v I1 H1 adr1 s1 g1 v1 => ?_⟩
  cases (show Rep I1 (.tup ds) v from v1) with
  | @tup p1 xs _ hp hr =>
    refine ⟨p1, xs, rfl, sqt_uniq (s1.ex _ _ hp), q _ I1 H1 adr1 s1 g1 fun I3 H3 adr3 σ3 E3 M3 s3 g3 _ => ?_⟩
    have a1 : SqT C.g.K H3 p1 xs := sqt_uniq (s3.ex _ _ (g3.ex _ _ hp))
    have l1 := hr.length
    refine ⟨⟨xs, a1, l1.symm⟩, fun n hn => ?_⟩
    have b1 : xs[n]? = some (xs[n]'(by omega)) := List.getElem?_eq_getElem _
    refine ⟨⟨xs, _, a1, b1⟩, fun z H4 hz => ?_⟩
    obtain ⟨T, y, rfl, hT, rfl, f1⟩ := hz
    obtain ⟨x', ex, rx⟩ := hr.get (atO_get hn)
    have e1 : x' = y := Option.some.inj (ex.symm.trans (f1 _ a1))
    subst e1
    obtain ⟨s4, g4, r4⟩ := s3.tup hT (.cons (.int (n : Int)) (.cons (rx.mono g3.ex) .nil))
    exact ⟨_, s4, g4, r4⟩
end
end Ab
/-! Ab: two generators, deep ==, a table of the module, texts in a tuple. -/
namespace Ab
open PySem PySem.Spec PyProof.Rows L2
variable [TabCtx]

/-! ### data as the kit's -/
mutual
inductive Py : D → PyData → Prop
  | non : Py .non .none
  | bl (b : Bool) : Py (.bl b) (.bool b)
  | int (i : Int) : Py (.int i) (.int i)
  | tup {ds : List D} {ps : List PyData} (h : Pys ds ps) : Py (.tup ds) (.tuple ps)
  | lst {ds : List D} {ps : List PyData} (h : Pys ds ps) : Py (.lst ds) (.list ps)
inductive Pys : List D → List PyData → Prop
  | nil : Pys [] []
  | cons {d : D} {ds : List D} {p : PyData} {ps : List PyData} (h : Py d p) (r : Pys ds ps) : Pys (d :: ds) (p :: ps)
end
mutual
theorem rep_dp {K : PySem.W.Frag} {I H : Hp} (e : Ex I H) : ∀ {d : D} {p : PyData} {v : V}, Py d p → Rep I d v → Dp K H v p
  | _, _, _, .non, .non => .non
  | _, _, _, .bl _, .bl b => .bl b
  | _, _, _, .int _, .int i => .int i
  | _, _, _, .tup h, .tup a r => .tup (.inl (.inl (e _ _ a))) (reps_dp e h r)
  | _, _, _, .lst h, .lst a r => .lst (.inl (.inl (e _ _ a))) (reps_dp e h r)
theorem reps_dp {K : PySem.W.Frag} {I H : Hp} (e : Ex I H) : ∀ {ds : List D} {ps : List PyData} {vs : List V}, Pys ds ps → Reps I ds vs → DpAll K H vs ps
  | _, _, _, .nil, .nil => .nil
  | _, _, _, .cons h q, .cons a r => .cons (rep_dp e h a) (reps_dp e q r)
end
def pV (v : List Int) : PyData := .tuple (v.map .int)
def pM (m : List (List Int)) : PyData := .tuple (m.map pV)
theorem pys_int : ∀ v : List Int, Pys (v.map D.int) (v.map PyData.int)
  | [] => .nil
  | x :: v => .cons (.int x) (pys_int v)
theorem py_V (v : List Int) : Py (tV v) (pV v) := .tup (pys_int v)
theorem pys_V : ∀ m : List (List Int), Pys (m.map tV) (m.map pV)
  | [] => .nil
  | r :: m => .cons (py_V r) (pys_V m)
theorem py_M (m : List (List Int)) : Py (tM m) (pM m) := .tup (pys_V m)
theorem eqv_ints : ∀ v w : List Int, PyData.eqvAll (v.map .int) (w.map .int) = decide (v = w)
  | [], [] => rfl
  | [], _ :: _ => rfl
  | _ :: _, [] => rfl
  | x :: v, y :: w => by
    show ((x == y) && PyData.eqvAll (v.map .int) (w.map .int)) = _
    rw [eqv_ints v w, Bool.eq_iff_iff]
    simp
theorem eqv_rows : ∀ m n : List (List Int), PyData.eqvAll (m.map pV) (n.map pV) = decide (m = n)
  | [], [] => rfl
  | [], _ :: _ => rfl
  | _ :: _, [] => rfl
  | x :: v, y :: w => by
    show (PyData.eqvAll (x.map .int) (y.map .int) && PyData.eqvAll (v.map pV) (w.map pV)) = _
    rw [eqv_rows v w, eqv_ints, Bool.eq_iff_iff]
    simp
theorem lay_ints : ∀ v : List Int, PyData.canLayAll0 (v.map .int) = true
  | [] => rfl
  | x :: v => by
    show (true && PyData.canLayAll0 (v.map .int)) = true
    rw [lay_ints v]
    rfl
theorem lay_rows : ∀ m : List (List Int), PyData.canLayAll0 (m.map pV) = true
  | [] => rfl
  | x :: v => by
    show (PyData.canLayAll0 (x.map .int) && PyData.canLayAll0 (v.map pV)) = true
    rw [lay_rows v, lay_ints]
    rfl
theorem dep_ints : ∀ v : List Int, PyData.depthAll (v.map .int) ≤ 1
  | [] => by decide
  | x :: v => by
    have := dep_ints v
    show max _ (PyData.depthAll (v.map .int)) ≤ 1
    have h1 : PyData.depth (.int x) ≤ 1 := by
      show (_ : Nat) ≤ 1
      first | exact Nat.zero_le _ | exact Nat.le_refl _
    omega
theorem dep_rows : ∀ m : List (List Int), PyData.depthAll (m.map pV) ≤ 2
  | [] => by decide
  | x :: v => by
    have := dep_rows v
    have h2 := dep_ints x
    show max (PyData.depthAll (x.map .int) + 1) (PyData.depthAll (v.map pV)) ≤ 2
    omega
theorem shaped_M (m : List (List Int)) : SeqAt.shaped (pM m) = true := by
  unfold SeqAt.shaped
  have h1 : (pM m).canLay0 = true := lay_rows m
  have h2 : (pM m).depth ≤ 64 := by
    have := dep_rows m
    show PyData.depthAll (m.map pV) + 1 ≤ 64
    omega
  rw [h1, decide_eq_true h2]
  rfl
section
variable {C : Cc} {E E1 E2 E' : List O} {M M1 M2 M3 M' : Mem} {o o1 o2 o3 : O} {os : List O} {e a b c tg iter elt : Expr} {es : List Expr} {pos pos' p p2 pos2 : Pos} {d d1 d2 : D} {i j : Int} {n : Nat} {k k' : Bool} {r : Out} {body : List Stmt} {x y : Str} {ds : List D}
theorem hu64 {X : Cx} (hX : CxIs C X) : X.A.units + 64 < cLine := hX.room.units
theorem CS.eqM {m m' : List (List Int)} : CS C .Eq (.dat (tM m)) (.dat (tM m')) M (.dat (.bl (decide (m = m')))) M := ⟨rEqD C.g.K, fun X hX => by
  have := op_eqD (X := X) (hu64 hX)
  rw [hX.K] at this
  exact this, fun I H adr σ E v w Q s hv hw q => by
  refine ⟨pM m, pM m', rep_dp s.ex (py_M m) hv, rep_dp s.ex (py_M m') hw, shaped_M m, shaped_M m', ?_⟩
  have e : PyData.eqv (pM m) (pM m') = decide (m = m') := eqv_rows m m'
  rw [e]
  exact q _ I H adr s Grow.refl (.bl _)⟩
/-- a scalar against another: none, bool, int, str -/
theorem CS.neNI : CS C .NotEq (.dat .non) (.dat (.int j)) M (.dat (.bl true)) M := ⟨_, fun X _ => op_ne, ro_ne (x := .non) (y := .int j) (fun _ _ h => by cases h; rfl) (fun _ _ => rep_int) rfl rfl⟩
/-! ### texts in a tuple -/
def inS (z : Str) (xs : List Str) : Bool := xs.any fun n => n == z
theorem inV_strs {z : Str} : ∀ xs : List Str, inV (.str z) (xs.map V.str) = inS z xs
  | [] => rfl
  | n :: ns => by
    show (eqV (.str n) (.str z) || inV (.str z) (ns.map V.str)) = (n == z || inS z ns)
    rw [inV_strs ns]
    rfl
theorem reps_str {I : Hp} : ∀ {ns : List Str} {xs : List V}, Reps I (ns.map .str) xs → xs = ns.map V.str
  | [], _, .nil => rfl
  | n :: ns, _, .cons h r => by
    cases h
    rw [reps_str r]
    rfl
theorem rep_str' {I : Hp} {z : Str} {v : V} (h : Rep I (.str z) v) : v = .str z := by cases h; rfl
theorem flat_txt (ns : List Str) : (ns.map V.str).all flatV = true := by
  rw [List.all_map, List.all_eq_true]
  intro x _
  rfl
theorem CS.inSt {z : Str} {ns : List Str} : CS C .In (.dat (.str z)) (.dat (.tup (ns.map .str))) M (.dat (.bl (inS z ns))) M := ⟨rIn C.g.K false, fun X hX => by
  have := op_in_seq (X := X)
  rw [hX.K] at this
  exact this, fun I H adr σ E v w Q s hv hw q => by
  cases rep_str' hv
  cases (show Rep I (.tup (ns.map .str)) w from hw) with
  | @tup p xs _ hp hr =>
    have e := reps_str hr
    subst e
    refine ⟨p, _, rfl, .inr (.inl (.inl (s.ex _ _ hp))), rfl, flat_txt ns, ?_⟩
    show Q (.bl (inV _ _)) H
    rw [inV_strs]
    exact q _ I H adr s Grow.refl (.bl _)⟩
/-! ### a table of the module with text keys -/
structure TabK (g : Pg) (x : Str) (tab : Str → Option Int) : Prop where
  ex : ∃ (dd : Addr) (es : Array DictEntry) (n : Nat), g.mg x = some (.ref dd) ∧ KDict g.K g.w dd es n ∧ ∀ z : Str, ∃ r : Option Value, PySem.W.nsIn g.K dd z = some r ∧ match tab z with
    | some i => ∃ u, r = some u ∧ RelV (.int i) u
    | none => r = none
def optI : Option Int → D
  | some i => .int i
  | none => .non
theorem get_kd {X : Cx} {dd : Addr} {es : Array DictEntry} {n : Nat} (D : KDict X.K X.w dd es n) : MtR X "dict.get" (fun v vs H Q => ∃ (z : Str) (r : Option Value) (v0 : V), v = .ref dd ∧ vs = [.str z] ∧ PySem.W.nsIn X.K dd z = some r ∧ RelV v0 (r.getD .none) ∧ Q v0 H) := by
  intro pins s σ H x xs v us Q I rx rxs h
  obtain ⟨z, r, v0, rfl, rfl, e, rv, q⟩ := h
  cases rx
  obtain ⟨u, rfl, ru⟩ := vals1 rxs
  obtain ⟨t, rfl⟩ := ru
  have mo := PySem.W.mapOf_K (prog := X.prog) (w := X.w) I.kIn D.at_ D.lit
  refine call_meetsIn PySem.F.slot_dict_get mo.typeIs PySem.F.entry_dict_get (PySem.F.args_dict_get_2 _ _) (meets_dict_get (PySem.strKind X.prog X.w) dd (PySem.strKind_is X.prog X.w z t) D.low) ⟨_, mo, ?_⟩
  rw [PySem.W.find_K D.at_ e]
  exact ⟨v0, H, I.tok _, rv, q⟩
def tKGet (dd : Addr) (n : Str → Option (Option Value)) (ta : TA) : TE := fun σ H Q => ta σ H fun xs H2 => ∃ (z : Str) (r : Option Value) (v0 : V), xs = [.str z] ∧ n z = some r ∧ RelV v0 (r.getD .none) ∧ Q v0 H2
theorem pe_kget {X : Cx} {dd : Addr} {es : Array DictEntry} {n : Nat} {ob ar : Expr} {t : TA} {apos cpos : Pos} (D : KDict X.K X.w dd es n) (ho : PE X ob (tC (.ref dd))) (ha : PA X [ar] t) (hbase : attributeBase ob "get" X.env (eval ob X.env) = eval ob X.env)
    (hfew : ((backTo cpos (starEach [ar] X.env)).all (fun x => !x.1) && (backToKw cpos (keywordEach [] X.env)).all (fun x => x.1.isSome) && decide ([ar].length + ([] : List Keyword).length + (if ([] : List Keyword).isEmpty then 0 else 1) < 30)) = true)
    (hline : (apos.endLine == cpos.line) = true) (hs : starEach [ar] X.env = (false, eval ar X.env) :: starEach [] X.env) : PE X (.Call (.Attribute ob "get" apos) [ar] [] cpos) (tKGet dd (PySem.W.nsIn X.K dd) t) :=
  ⟨fun pins s σ H Q I h => wpAny_Call_method_late hbase hfew hline rfl (thn (ho.run pins s σ H (fun x H1 => x = .ref dd ∧ tKGet dd (PySem.W.nsIn X.K dd) t σ H1 Q) I ⟨rfl, h⟩) fun v s1 ⟨x, H1, I1, r1, ex, q1⟩ => by
    subst ex
    have ev : v = Value.ref dd := r1
    subst ev
    have hA := ha.run cpos pins s1 σ H1 _ I1 q1
    refine ⟨"dict", "dict.get", PySem.F.plainAttrs_dict, PySem.F.slot_dict_get, PySem.F.type_dict_get, kd_type D I1, fun a ea => ?_, ?_⟩
    · cases ea
      exact ⟨_, I1.kIn _ _ D.at_, rfl⟩
    · rw [hs] at hA ⊢
      refine Calls.callWith_builtin (by rfl) (Calls.evalArgs_plain (thn hA fun us s2 ⟨vs, H2, I2, r2, z, r, v0, q2, q3, q4, q5⟩ => get_kd D pins s2 σ H2 (.ref dd) vs _ us Q I2 rfl r2 ⟨z, r, v0, rfl, q2, q3, q4, q5⟩)))⟩
theorem EV.dget {z : Str} {tab : Str → Option Int} {apos q : Pos} (T : TabK C.g x tab) (ha : EV C a E M (.dat (.str z)) M') (hg : C.sc.names.lookup x = some .globalImplicit := by rfl) (hdb : (x == ("__debug__" : Str)) = false := by decide)
    (hbase : ∀ env, attributeBase (.Name x q) "get" env (eval (.Name x q) env) = eval (.Name x q) env := by intro _; rfl)
    (hfew : ∀ env, ((backTo pos (starEach [a] env)).all (fun x => !x.1) && (backToKw pos (keywordEach [] env)).all (fun x => x.1.isSome) && decide ([a].length + ([] : List Keyword).length + (if ([] : List Keyword).isEmpty then 0 else 1) < 30)) = true := by intro _; rfl)
    (hline : (apos.endLine == pos.line) = true := by rfl) (hs : ∀ env, starEach [a] env = (false, eval a env) :: starEach [] env := by intro _; rfl) : EV C (.Call (.Attribute (.Name x q) "get" apos) [a] [] pos) E M (.dat (optI (tab z))) M' := by
  obtain ⟨dd, es, n, hm, D, hq⟩ := T.ex
  obtain ⟨r, hr, hv⟩ := hq z
  refine EV.mk (t := tKGet dd (PySem.W.nsIn C.g.K dd) (tCons (UE C a) tNil)) (fun X hX => by
    have D' : KDict X.K X.w dd es n := by rw [hX.K, hX.w]; exact D
    have := pe_kget (apos := apos) (cpos := pos) D' (pe_glob (v := .ref dd) (u := .ref dd) (pos := q) (by show X.env.scope.names.lookup x = _; rw [hX.sc]; exact hg) (by rw [hX.mg]; exact hm) rfl hdb) (pa_cons (ue hX a) pa_nil (hs X.env)) (hbase X.env) (hfew X.env) hline (hs X.env)
    rw [hX.K] at this
    exact this) fun I H adr σ Q s q => ha I H adr σ _ s fun v I1 H1 adr1 s1 g1 v1 => ?_
  cases rep_str' v1
  cases ht : tab z with
  | some i =>
    rw [ht] at hv q
    obtain ⟨u, rfl, hu⟩ := hv
    exact ⟨z, _, .int i, rfl, hr, hu, q _ I1 H1 adr1 s1 g1 (.int i)⟩
  | none =>
    rw [ht] at hv q
    subst hv
    exact ⟨z, _, .non, rfl, hr, rfl, q _ I1 H1 adr1 s1 g1 .non⟩
/-! ### two generators -/
theorem LC2.ev {α β : Type} (jx jy : Nat) {iter1 : Expr} {scope : Scope} {own : List (Str × Nat)} {q1 q2 : Pos} {xs : List α} {f : α → D} {ys : α → List β} {f' : β → D} {dy : α → D} {gg : α → β → D} (ok : blkC C.N C.sc scope own = true) (nd : C.N.Nodup) (ho : own.map (·.2) = [jx, jy]) (hne : jx ≠ jy)
    (h : EV C iter E M (.dat d) M') (hd : seqD d = some (xs.map f)) (hl : M.length ≤ M'.length) (hok : OkM M M') (hz : (xs.flatMap fun u => (ys u).map (gg u)).length < 100000)
    (inner : ∀ u ∈ xs, ∀ M, EV (C.blk scope) iter1 ((wipeE E [jx, jy]).set jx (.dat (f u))) M (.dat (dy u)) M ∧ seqD (dy u) = some ((ys u).map f'))
    (step : ∀ u ∈ xs, ∀ v ∈ ys u, ∀ M, EV (C.blk scope) elt (((wipeE E [jx, jy]).set jx (.dat (f u))).set jy (.dat (f' v))) M (.dat (gg u v)) M)
    (hi : C.N[jx]? = some x := by rfl) (hi' : C.N[jy]? = some y := by rfl) (hx : Loc (C.blk scope).sc x := by first | exact Or.inl rfl | exact Or.inr rfl) (hx' : Loc (C.blk scope).sc y := by first | exact Or.inl rfl | exact Or.inr rfl)
    (hf' : (C.blk scope).fn x = true ∨ (C.blk scope).sc.names.lookup x = some .local := by first | exact .inl rfl | exact .inr rfl) (hf'' : (C.blk scope).fn y = true ∨ (C.blk scope).sc.names.lookup y = some .local := by first | exact .inl rfl | exact .inr rfl)
    (hf : ∀ env x, foldedSetIterable iter env x = pure x := by intro _ _; rfl) (hf2 : ∀ env x, foldedSetIterable iter1 env x = pure x := by intro _ _; rfl) : EV C (.ListComp elt [⟨.Name x q1, iter, [], 0⟩, ⟨.Name y q2, iter1, [], 0⟩] scope pos) E M (.dat (.lst (xs.flatMap fun u => (ys u).map (gg u)))) M' := by
  have hn : (xs.map f).length = xs.length := List.length_map _
  let acc : Nat → List D := fun i => (xs.take i).flatMap fun u => (ys u).map (gg u)
  have hacc : ∀ i (h : i < xs.length), acc (i + 1) = acc i ++ (ys xs[i]).map (gg xs[i]) := fun i h => by
    show (xs.take (i + 1)).flatMap _ = (xs.take i).flatMap _ ++ _
    rw [List.take_succ_eq_append_getElem h, List.flatMap_append]
    simp
  have hle : ∀ i, (acc i).length ≤ (xs.flatMap fun u => (ys u).map (gg u)).length := fun i => by
    have e : xs.flatMap (fun u => (ys u).map (gg u)) = acc i ++ (xs.drop i).flatMap fun u => (ys u).map (gg u) := by
      show _ = (xs.take i).flatMap _ ++ _
      rw [← List.flatMap_append, List.take_append_drop]
    rw [e, List.length_append]
    omega
  have main : EV C (.ListComp elt [⟨.Name x q1, iter, [], 0⟩, ⟨.Name y q2, iter1, [], 0⟩] scope pos) E M (.adr M'.length) (M' ++ [some ((acc xs.length).map O.dat)]) := by
    refine EV.mk (fun X hX => pe_lc2 (vs1 := [jy]) hX.calm (by rw [hX.N]; exact nd) (ui hX (.Name x q1) iter) (by rw [hX.N, hX.sc]; exact blkOk_by ok) (fun i hi => by rw [ho]; simp at hi; simp [hi]) (fun s H A cl fp => ug (cx_blk hX s H scope A cl fp) (.Name x q1)) (fun s H A cl fp => up (cx_blk hX s H scope A cl fp) []) (fun s H A cl fp => ui (cx_blk hX s H scope A cl fp) (.Name y q2) iter1) (fun s H A cl fp => ug (cx_blk hX s H scope A cl fp) (.Name y q2)) (fun s H A cl fp => up (cx_blk hX s H scope A cl fp) []) (fun s H A cl fp => ue (cx_blk hX s H scope A cl fp) elt) (hf X.env) hf2) fun I H adr σ Q s q => ?_
    rw [ho]
    refine (EI.seq (tg := .Name x q1) h hd) I H adr σ _ s fun J I1 H1 adr1 s1 g1 hr Dl hD => ?_
    rw [hn] at hr
    obtain ⟨s2, g2, atD⟩ := s1.cel hD (os := []) .nil
    refine ⟨fun i μ H' => i ≤ xs.length ∧ μ = xs.length - i ∧ ∃ I3 adr3, Stt I3 H' adr3 σ E (M' ++ [some ((acc i).map O.dat)]) ∧ Grow I1 (upd H1 Dl (.lst [])) (adr1 ++ [Dl]) I3 H' adr3, ⟨xs.length, Nat.zero_le _, by omega, I1, _, s2, Grow.refl⟩, ?_⟩
    rintro i μ H3 ⟨hi3, rfl, I3, adr3, s3, g3⟩
    obtain ⟨st, go⟩ := hr I3 H3 adr3 σ E _ s3 (g2.trans g3) True.intro
    by_cases him : i < xs.length
    · obtain ⟨g0, gy⟩ := go i him
      refine .inr ⟨g0, fun H'' => ∃ I4 adr4, Stt I4 H'' adr4 σ E (M' ++ [some ((acc (i + 1)).map O.dat)]) ∧ Grow I1 (upd H1 Dl (.lst [])) (adr1 ++ [Dl]) I4 H'' adr4, fun H'' hN => ⟨xs.length - (i + 1), by omega, by omega, rfl, hN⟩, fun z H4 hy => ?_⟩
      obtain ⟨I4, s4, g4, v4⟩ := gy z H4 hy
      rw [atO_map him] at v4
      have hu : xs[i] ∈ xs := List.getElem_mem him
      generalize hxi : xs[i] = u at v4 hu
      refine (EGv.nm (C := C.blk scope) (vs := [jx, jy]) jx nd (by simp) hi hx hf') I4 H4 adr3 (wipe σ [jx, jy]) z _ (s4.wipe _) v4 fun I5 H5 adr5 σ5 s5 g5 l5 f5 => ⟨?_, ?_⟩
      · rw [wipe_eq l5 f5]
        exact wipe_eq (wipe_length _ _) fun i hi => wipe_get _ _ _ hi
      · refine (EP.nil (C := C.blk scope)) I5 H5 adr5 σ5 _ s5 fun I6 H6 adr6 s6 g6 => ?_
        rw [if_pos rfl]
        obtain ⟨hin, hdy⟩ := inner u hu (M' ++ [some ((acc i).map O.dat)])
        refine (EI.seq (tg := .Name y q2) hin hdy) I6 H6 adr6 σ5 _ s6 fun J1 I7 H7 adr7 s7 g7 hr1 => ?_
        have hn1 : ((ys u).map f').length = (ys u).length := List.length_map _
        rw [hn1] at hr1
        refine ⟨fun j κ H' => j ≤ (ys u).length ∧ κ = (ys u).length - j ∧ ∃ I8 adr8, Stt I8 H' adr8 σ5 ((wipeE E [jx, jy]).set jx (.dat (f u))) (M' ++ [some ((acc i ++ ((ys u).take j).map (gg u)).map O.dat)]) ∧ Grow I7 H7 adr7 I8 H' adr8, ⟨(ys u).length, Nat.zero_le _, by omega, I7, adr7, by rw [List.take_zero, List.map_nil, List.append_nil]; exact s7, Grow.refl⟩, ?_⟩
        rintro j κ H8 ⟨hj, rfl, I8, adr8, s8, g8⟩
        obtain ⟨st1, go1⟩ := hr1 I8 H8 adr8 σ5 _ _ s8 g8 True.intro
        by_cases hjm : j < (ys u).length
        · obtain ⟨g01, gy1⟩ := go1 j hjm
          refine .inr ⟨g01, fun H' => ∃ I9 adr9, Stt I9 H' adr9 σ5 ((wipeE E [jx, jy]).set jx (.dat (f u))) (M' ++ [some ((acc i ++ ((ys u).take (j + 1)).map (gg u)).map O.dat)]) ∧ Grow I7 H7 adr7 I9 H' adr9, fun H' hN => ⟨(ys u).length - (j + 1), by omega, by omega, rfl, hN⟩, fun z' H9 hy1 => ?_⟩
          obtain ⟨I9, s9, g9, v9⟩ := gy1 z' H9 hy1
          rw [atO_map hjm] at v9
          have hvm : (ys u)[j] ∈ ys u := List.getElem_mem hjm
          refine (EGv.nm (C := C.blk scope) (vs := [jy]) jy nd (by simp) hi' hx' hf'') I9 H9 adr8 (wipe σ5 [jy]) z' _ (s9.wipe _) v9 fun I10 H10 adr10 σ10 s10 g10 l10 f10 => ⟨?_, ?_⟩
          · rw [wipe_eq l10 f10]
            exact wipe_eq (wipe_length _ _) fun i hi => wipe_get _ _ _ hi
          · refine (EP.nil (C := C.blk scope)) I10 H10 adr10 σ10 _ s10 fun I11 H11 adr11 s11 g11 => ?_
            rw [if_pos rfl]
            have eE : (wipeE ((wipeE E [jx, jy]).set jx (.dat (f u))) [jy]).set jy (.dat (f' (ys u)[j])) = ((wipeE E [jx, jy]).set jx (.dat (f u))).set jy (.dat (f' (ys u)[j])) := List.set_set _
            rw [eE] at s11
            refine step u hu _ hvm _ I11 H11 adr11 σ10 _ s11 fun w I12 H12 adr12 s12 g12 w12 => ?_
            have gI := (((g8.trans g9).trans g10).trans g11).trans g12
            have gAll := (((((g3.trans g4).trans g5).trans g6).trans g7).trans gI)
            have hD12 : adr12[M'.length]? = some Dl := gAll.get atD
            have hc : (M' ++ [some ((acc i ++ ((ys u).take j).map (gg u)).map O.dat)])[M'.length]? = some (some ((acc i ++ ((ys u).take j).map (gg u)).map O.dat)) := by
              rw [List.getElem?_append_right (Nat.le_refl _), Nat.sub_self]
              rfl
            obtain ⟨_, vs, hx1, hx2⟩ := s12.sto.cell M'.length Dl _ hD12 hc
            have hlen := hx2.length
            have hcnt : (acc i ++ ((ys u).take j).map (gg u)).length ≤ (acc (i + 1)).length := by
              rw [hacc i him, hxi, List.length_append, List.length_append, List.length_map, List.length_map, List.length_take]
              omega
            have h3 := hle (i + 1)
            refine ⟨vs, hx1, by rw [← hlen]; exact sz_lt (by rw [List.length_map]; omega), ?_⟩
            obtain ⟨s13, g13⟩ := s12.wri hD12 hc (Vs.app hx2 (.cons w12 .nil))
            have eM : (M' ++ [some ((acc i ++ ((ys u).take j).map (gg u)).map O.dat)]).set M'.length (some ((acc i ++ ((ys u).take j).map (gg u)).map O.dat ++ [O.dat (gg u (ys u)[j])])) = M' ++ [some ((acc i ++ ((ys u).take (j + 1)).map (gg u)).map O.dat)] := by
              rw [List.set_append_right _ _ (Nat.le_refl _), Nat.sub_self, List.take_succ_eq_append_getElem hjm, List.map_append (f := gg u), ← List.append_assoc, List.map_append (f := O.dat) (l₂ := [(ys u)[j]].map (gg u))]
              rfl
            rw [eM] at s13
            exact ⟨I12, adr12, s8.mono ((((g9.trans g10).trans g11).trans g12).trans g13) s13.ex s13.sto, gI.trans g13⟩
        · have ej : j = (ys u).length := by omega
          subst ej
          refine .inl ⟨st1, I8, adr8, ?_, ((((g3.trans g4).trans g5).trans g6).trans g7).trans g8⟩
          have e1 : acc (i + 1) = acc i ++ ((ys u).take (ys u).length).map (gg u) := by rw [hacc i him, hxi, List.take_length]
          rw [e1]
          exact s3.mono ((((g4.trans g5).trans g6).trans g7).trans g8) s8.ex s8.sto
    · have e : i = xs.length := by omega
      subst e
      exact .inl ⟨st, q _ I3 H3 adr3 s3 ((g1.trans g2).trans g3) ⟨Dl, g3.get atD, rfl⟩⟩
  have e2 : acc xs.length = xs.flatMap fun u => (ys u).map (gg u) := by
    show (xs.take xs.length).flatMap _ = _
    rw [List.take_length]
  rw [e2] at main
  exact Ev.froz main rfl hl hok
end
end Ab
/-! Ab: dict displays, a text some times. -/
namespace Ab
open PySem PySem.Spec PyProof.Rows L2
variable [TabCtx]
section
variable {C : Cc} {E E1 E2 E' : List O} {M M1 M2 M3 M' : Mem} {a b c : Expr} {es : List Expr} {pos pos' p p2 pos2 : Pos} {d d1 d2 : D} {i j : Int} {n : Nat} {k k' : Bool} {x y : Str} {ds : List D}
theorem EV.dict0 : EV C (.Dict [] [] pos) E M (.dat (.dct [] [])) M :=
  EV.mk (fun _ _ => pe_dnewK) fun I H adr σ Q s q p hp => by
    obtain ⟨s2, g2⟩ := s.ext (o := .dK []) hp NT.dK
    exact q _ _ _ _ s2 g2 (.dct (kvs := []) upd_same .nil)
/-- "0" * m, m from 1 to 3 -/
def zeros (m : Int) : Str := if m = 1 then "0" else if m = 2 then "00" else "000"
theorem op_zeros {X : Cx} : OpR X (binaryOp .Mult) (fun x y H Q => ∃ m : Int, x = .str "0" ∧ y = .int m ∧ 1 ≤ m ∧ m ≤ 3 ∧ Q (.str (zeros m)) H) := by
  intro pins s σ H x y v u Q I rx ry h
  obtain ⟨m, rfl, rfl, h1, h2, q⟩ := h
  obtain ⟨t, rfl⟩ := rx
  obtain ⟨t', rfl⟩ := ry
  have hm : m = 1 ∨ m = 2 ∨ m = 3 := by omega
  rcases hm with rfl | rfl | rfl
  · exact PySem.P.mul_str (by decide) (by decide) (by decide) ⟨.str (zeros 1), H, I.kept (t' := s.toks) fun _ _ z => z, ⟨t, rfl⟩, q⟩
  · exact PySem.P.mul_str (by decide) (by decide) (by decide) ⟨by decide, .str (zeros 2), H, I.tok _, ⟨_, rfl⟩, q⟩
  · exact PySem.P.mul_str (by decide) (by decide) (by decide) ⟨by decide, .str (zeros 3), H, I.tok _, ⟨_, rfl⟩, q⟩
theorem BS.zeros (h : 1 ≤ i ∧ i ≤ 3) : BS C .Mult (.dat (.str "0")) (.dat (.int i)) M (.dat (.str (Ab.zeros i))) M := ⟨_, fun X _ => op_zeros, fun I H adr σ E v w Q s hv hw q => by
  cases rep_int hw
  cases rep_str' hv
  exact ⟨i, rfl, rfl, h.1, h.2, q _ I H adr s Grow.refl (.str _)⟩⟩
/-- {"key": b} -/
theorem EV.dict1 {z : Str} {jj : Nat} {q0 : Pos} (hb : EV C b E M (.dat d) M') : EV C (.Dict [some (.Constant (.str z) jj q0)] [b] pos) E M (.dat (.dct [.inr z] [d])) M' :=
  EV.mk (t := tDisp [(tC (.str z), UE C b)]) (fun X hX => pe_disp (pps_cons pe_str (ue hX b) pps_nil) rfl rfl (by simp) (by simp)) fun I H adr σ Q s q p hp => by
    have hi := s.ex.non hp
    have pa : p ∉ adr := fun h => by
      obtain ⟨k, hk⟩ := List.getElem?_of_mem h
      obtain ⟨u, hu, _⟩ := s.sto.dom k p hk
      rw [hp] at hu
      cases hu
    have ne0 : ∀ q u, H q = some u → q ≠ p := fun q u h => ne_of_none h hp
    have g0 : Grow I H adr I (upd H p (.dK [])) adr := ⟨Ex.refl _, ⟨[], by simp, by simp⟩, fun q u h _ _ => by rw [upd_ne (ne0 q u h)]; exact h, fun q u h n => ⟨u, by rw [upd_ne (ne0 q u h)]; exact h, n⟩, fun _ _ _ _ h _ => h, fun c q h => by rw [upd_ne (ne0 c _ h)]; exact h⟩
    have t0 : Sto I (upd H p (.dK [])) adr M := ⟨s.sto.len, s.sto.nd, fun k a os h1 h2 => by
      obtain ⟨c1, xs, c2, c3⟩ := s.sto.cell k a os h1 h2
      exact ⟨c1, xs, by rw [upd_ne (ne0 _ _ c2)]; exact c2, c3⟩, fun k a h => by
      obtain ⟨u, hu, n⟩ := s.sto.dom k a h
      exact ⟨u, by rw [upd_ne (ne0 _ _ hu)]; exact hu, n⟩, s.sto.amb.new hp⟩
    have s0 : Stt I (upd H p (.dK [])) adr σ E M := s.mono g0 (s.ex.mut hi) t0
    show tC (.str z) σ (upd H p (.dK [])) _
    show UE C b σ (upd H p (.dK [])) _
    refine hb I _ adr σ _ s0 fun v I2 H2 adr2 s2 g2 v2 => ?_
    have h2p : H2 p = some (.dK []) := g2.keep p _ upd_same NT.dK pa
    have i2p : I2 p = none := g2.out p _ upd_same NT.dK hi pa
    have p2 : p ∉ adr2 := fun h => by
      obtain ⟨nw, rfl, fr⟩ := g2.new
      rcases List.mem_append.mp h with h | h
      · exact pa h
      · exact fr p h _ upd_same NT.dK
    refine ⟨h2p, [(.inr z, v)], rfl, by show 1 ≤ 15; decide, ?_⟩
    show Q (.ref p) (upd H2 p (.dK [(.inr z, v)]))
    have e3 : Ex (upd I2 p (.dK [(.inr z, v)])) (upd H2 p (.dK [(.inr z, v)])) := s2.ex.upd
    have i3 : Ex I2 (upd I2 p (.dK [(.inr z, v)])) := Ex.new i2p
    have amb3 : Amb (upd I2 p (.dK [(.inr z, v)])) (upd H2 p (.dK [(.inr z, v)])) := ⟨fun q hq => by
      obtain ⟨ps, h1, h2, h3⟩ := s2.sto.amb.tabs q hq
      have ne : ∀ b u, H2 b = some u → (∀ zs, u ≠ .dK zs) → b ≠ p := fun b u h n z => by
        rw [z, h2p] at h
        exact n _ (Option.some.inj h).symm
      refine ⟨ps, by rw [upd_ne (ne _ _ h1 (fun _ z => by cases z))]; exact h1, h2, fun pos cv hc => ?_⟩
      obtain ⟨c, e1, e2⟩ := h3 pos cv hc
      exact ⟨c, e1, by rw [upd_ne (ne _ _ e2 (fun _ z => by unfold LamX.CodeO at z; cases z))]; exact e2⟩, fun b u h => by
      by_cases e : b = p
      · subst e
        rw [upd_same] at h
        cases h
        exact NT.dK
      · rw [upd_ne e] at h
        exact s2.sto.amb.nt b u h⟩
    have nep : ∀ (k : Nat) (a : Addr), adr2[k]? = some a → a ≠ p := fun k a h e => p2 (e ▸ List.mem_of_getElem? h)
    have t3 : Sto (upd I2 p (.dK [(.inr z, v)])) (upd H2 p (.dK [(.inr z, v)])) adr2 M' := ⟨s2.sto.len, s2.sto.nd, fun k a os h1 h2 => by
      obtain ⟨c1, xs, c2, c3⟩ := s2.sto.cell k a os h1 h2
      exact ⟨by rw [upd_ne (nep k a h1)]; exact c1, xs, by rw [upd_ne (nep k a h1)]; exact c2, c3.ext i3⟩, fun k a h => by
      obtain ⟨u, hu, n⟩ := s2.sto.dom k a h
      exact ⟨u, by rw [upd_ne (nep k a h)]; exact hu, n⟩, amb3⟩
    have g02 := g0.trans g2
    have nH : ∀ q u, H q = some u → q ≠ p := ne0
    have g3 : Grow I H adr (upd I2 p (.dK [(.inr z, v)])) (upd H2 p (.dK [(.inr z, v)])) adr2 := ⟨g02.ex.trans i3, g02.new, fun q u h n h' => by rw [upd_ne (nH q u h)]; exact g02.keep q u h n h', fun q u h n => by
      obtain ⟨u', hu, n'⟩ := g02.dom q u h n
      exact ⟨u', by rw [upd_ne (nH q u h)]; exact hu, n'⟩, fun q u h n h1 h2 => by rw [upd_ne (nH q u h)]; exact g02.out q u h n h1 h2, fun c q h => by rw [upd_ne (nH c _ h)]; exact g02.code c q h⟩
    exact q _ _ _ _ (s.mono g3 e3 t3) g3 (.dct (kvs := [(.inr z, v)]) upd_same (.cons (Rep.mono i3 (show Rep I2 d v from v2)) .nil))
end
end Ab
/-! Ab: insert, members, a list some times as a cell, least and greatest. -/
namespace Ab
open PySem PySem.Spec PyProof.Rows L2
variable [TabCtx]
section
variable {C : Cc} {E E1 E2 E' : List O} {M M1 M2 M3 M' : Mem} {o : O} {a b c : Expr} {es : List Expr} {pos pos' p p2 pos2 apos : Pos} {d d1 d2 : D} {i j : Int} {n : Nat} {k k' : Bool} {x y : Str} {ds : List D}
theorem EV.insert {ps ps1 : List O} (ho : EV C a E M (.adr n) M1) (hi : EV C b E M1 (.dat (.int i)) M2) (hv : EV C c E M2 o M3) (hm1 : M1[n]? = some (some ps1)) (hm : M3[n]? = some (some ps)) (hz : ps.length < 100000) (h0 : 0 ≤ i ∧ i < 2 ^ 63)
    (hbase : ∀ env, attributeBase a "insert" env (eval a env) = eval a env := by intro _; rfl)
    (hfew : ∀ env, ((backTo pos (starEach [b, c] env)).all (fun x => !x.1) && (backToKw pos (keywordEach [] env)).all (fun x => x.1.isSome) && decide ([b, c].length + ([] : List Keyword).length + (if ([] : List Keyword).isEmpty then 0 else 1) < 30)) = true := by intro _; rfl)
    (hline : (apos.endLine == pos.line) = true := by rfl) (hs : ∀ env, starEach [b, c] env = (false, eval b env) :: starEach [c] env := by intro _; rfl) (hs2 : ∀ env, starEach [c] env = (false, eval c env) :: starEach [] env := by intro _; rfl) (hpl : ∀ env, (backTo pos (starEach [c] env)).any (·.1) = false := by intro _; rfl) :
    EV C (.Call (.Attribute a "insert" apos) [b, c] [] pos) E M (.dat .non) (M3.set n (some (ps.take i.toNat ++ [o] ++ ps.drop i.toNat))) :=
  EV.mk (t := tBM C.g.K "list" (fun x vs H Q => ∃ (l : Addr) (xs : List V) (i : Int) (y : V), x = .ref l ∧ vs = [.int i, y] ∧ H l = some (.lst xs) ∧ xs.length < sizeLine ∧ 0 ≤ i ∧ i < 2 ^ 63 ∧ Q .non (upd H l (.lst (xs.take i.toNat ++ [y] ++ xs.drop i.toNat)))) (UE C a) (tCons (UE C b) (tCons (UE C c) tNil))) (fun X hX => by
    have := pe_bm (apos := apos) (cpos := pos) PySem.F.plainAttrs_list PySem.F.slot_list_insert PySem.F.type_list_insert (mt_insert (X := X)) (ue hX a) (pa_cons (ue hX b) (pa_cons (ue hX c) pa_nil (hs2 X.env)) (hs X.env)) (hbase X.env) (hfew X.env) hline (hs X.env) (hpl X.env)
    rw [hX.K] at this
    exact this) fun I H adr σ Q s q => ho I H adr σ _ s fun v I1 H1 adr1 s1 g1 v1 => by
      obtain ⟨p, hp, rfl⟩ := v1
      obtain ⟨_, xs1, hx1, _⟩ := s1.sto.cell n p ps1 hp hm1
      refine ⟨.inl ⟨rfl, xs1, sql_uniq hx1⟩, hi I1 H1 adr1 σ _ s1 fun u I2 H2 adr2 s2 g2 u2 => hv I2 H2 adr2 σ _ s2 fun w I3 H3 adr3 s3 g3 w3 => ?_⟩
      cases rep_int u2
      have hp3 := g3.get (g2.get hp)
      obtain ⟨_, xs, hx, hr⟩ := s3.sto.cell n p ps hp3 hm
      obtain ⟨s4, g4⟩ := s3.wri hp3 hm (Vs.app (Vs.app (Vs.take i.toNat hr) (.cons w3 .nil)) (Vs.drop i.toNat hr))
      exact ⟨p, xs, i, w, rfl, rfl, hx, by rw [← hr.length]; exact sz_lt hz, h0.1, h0.2, q _ I3 _ adr3 s4 (((g1.trans g2).trans g3).trans g4) .non⟩
theorem CS.notInSt {z : Str} {ns : List Str} : CS C .NotIn (.dat (.str z)) (.dat (.tup (ns.map .str))) M (.dat (.bl (!inS z ns))) M := ⟨rIn C.g.K true, fun X hX => by
  have := op_notIn_seq (X := X)
  rw [hX.K] at this
  exact this, fun I H adr σ E v w Q s hv hw q => by
  cases rep_str' hv
  cases (show Rep I (.tup (ns.map .str)) w from hw) with
  | @tup p xs _ hp hr =>
    have e := reps_str hr
    subst e
    refine ⟨p, _, rfl, .inr (.inl (.inl (s.ex _ _ hp))), rfl, flat_txt ns, ?_⟩
    show Q (.bl (!inV _ _)) H
    rw [inV_strs]
    exact q _ I H adr s Grow.refl (.bl _)⟩
theorem CS.inStL {z : Str} {ns : List Str} : CS C .In (.dat (.str z)) (.dat (.lst (ns.map .str))) M (.dat (.bl (inS z ns))) M := ⟨rIn C.g.K false, fun X hX => by
  have := op_in_seq (X := X)
  rw [hX.K] at this
  exact this, fun I H adr σ E v w Q s hv hw q => by
  cases rep_str' hv
  cases (show Rep I (.lst (ns.map .str)) w from hw) with
  | @lst p xs _ hp hr =>
    have e := reps_str hr
    subst e
    refine ⟨p, _, rfl, .inl (.inl (.inl (s.ex _ _ hp))), rfl, flat_txt ns, ?_⟩
    show Q (.bl (inV _ _)) H
    rw [inV_strs]
    exact q _ I H adr s Grow.refl (.bl _)⟩
/-- [..] * i, a cell -/
theorem BS.mulLN (h0 : 0 ≤ i) (h2 : i ≤ 1000) (h3 : ds.length ≤ 100) : BS C .Mult (.dat (.lst ds)) (.dat (.int i)) M (.adr M.length) (M ++ [some ((List.replicate i.toNat ds).flatten.map .dat)]) := ⟨rRep, fun X hX => op_rep, fun I H adr σ E v w Q s hv hw q => by
  cases rep_int hw
  cases (show Rep I (.lst ds) v from hv) with
  | @lst a xs _ ha hr =>
    have l1 := hr.length
    refine ⟨a, i, xs, rfl, rfl, s.ex _ _ ha, by omega, by omega, ?_, fun p hp => ?_⟩
    · have : xs.length * i.toNat ≤ 100 * 1000 := Nat.mul_le_mul (by omega) (by omega)
      exact sz_of (by omega)
    · obtain ⟨s2, g2, r2⟩ := s.cel hp (Vs.reps (hr.rep i.toNat))
      exact q _ _ _ _ s2 g2 ⟨p, r2, rfl⟩⟩
theorem EV.minL {ns : List Int} {m : Int} (h : EV C a E M (.dat (.lst (ns.map .int))) M') (h1 : m ∈ ns) (h2 : ∀ y ∈ ns, m ≤ y) (hm : Bt C.g "min") (hx : x = "min" := by rfl) (hg : C.sc.names.lookup x = some .globalImplicit := by rfl) (he : ∀ env, starEach [a] env = (false, eval a env) :: starEach [] env := by intro _; rfl) : EV C (.Call (.Name x p) [a] [] pos) E M (.dat (.int m)) M' := by
  subst hx; exact EV.bi (KS.minL h1 h2) h hm bv_min (by decide) (by decide) hg he
theorem EV.maxL {ns : List Int} {m : Int} (h : EV C a E M (.dat (.lst (ns.map .int))) M') (h1 : m ∈ ns) (h2 : ∀ y ∈ ns, y ≤ m) (hm : Bt C.g "max") (hx : x = "max" := by rfl) (hg : C.sc.names.lookup x = some .globalImplicit := by rfl) (he : ∀ env, starEach [a] env = (false, eval a env) :: starEach [] env := by intro _; rfl) : EV C (.Call (.Name x p) [a] [] pos) E M (.dat (.int m)) M' := by
  subst hx; exact EV.bi (KS.maxL h1 h2) h hm bv_max (by decide) (by decide) hg he
end
end Ab
/-! Ab: min(list, key=lambda) with keys that are pairs of ints. -/
namespace Ab
open PySem PySem.Spec PyProof.Rows L2
variable [TabCtx]
section
variable {X : Cx} {pins : List (Addr × Obj)} {σ : L2.St} {E : List O} {M : Mem} {I0 H0 II H : Hp} {adr0 adr : List Addr} {s : Shared} {f l it S : Addr} {of : Obj} {xs : List V} {ka kb : Nat → Int}
/-- an object that is known and untracked -/
structure Kn (X : Cx) (b : Addr) (o : Obj) (H : Hp) (s : Shared) : Prop where
  get : s.heap.get? b = some o
  non : H b = none
  nfr : b ∉ frs X.stack
theorem Kn.past {b : Addr} {o : Obj} {H' : Hp} {s' : Shared} (k : Kn X b o H s) (u : Un (frs X.stack) [] H H' s.heap s'.heap) : Kn X b o H' s' :=
  ⟨u.keep b o k.get k.non k.nfr (fun z => by cases z), u.free b o k.get k.non (fun z => by cases z), k.nfr⟩
theorem Kn.mv {b : Addr} {o : Obj} {s' : Shared} (k : Kn X b o H s) (u : s.heap.get? b = some o → s'.heap.get? b = some o) : Kn X b o H s' := ⟨u k.get, k.non, k.nfr⟩
theorem fpPast {b : Addr} {H' : Hp} (k : FpOk X pins H b) (h : H' b = none) : FpOk X pins H' b := ⟨h, k.2⟩
theorem turnedAt {h' : Heap} {t' : Nat} (J : Inv X pins σ H s) (k : FpOk X pins H it) (q : ∀ b o, b ≠ it → s.heap.get? b = some o → h'.get? b = some o) : Inv X pins σ H { s with heap := h', toks := t' } :=
  J.turned q k.1 k.2.1 k.2.2.2.1 k.2.2.2.2.1 k.2.2.2.2.2
/-- a call of the key -/
def KeyRun (X : Cx) (pins : List (Addr × Obj)) (σ : L2.St) (E : List O) (M : Mem) (I0 H0 : Hp) (adr0 : List Addr) (f : Addr) (of : Obj) (xs : List V) (ka kb : Nat → Int) : Prop :=
  ∀ (j : Nat) (x : V) (u : Value) (s : Shared) (II H : Hp) (adr : List Addr), xs[j]? = some x → RelV x u → Inv X pins σ H s → Stt II H adr σ E M → Grow I0 H0 adr0 II H adr → Kn X f of H s →
    wpAny (model X.prog X.w) X.A.in1 (call (.ref f) [u]) (fun v s' => ∃ p I' H' adr', v = .ref p ∧ Inv X pins σ H' s' ∧ Stt I' H' adr' σ E M ∧ Grow II H adr I' H' adr' ∧ I' p = some (.tup [.int (ka j), .int (kb j)]) ∧ Un (frs X.stack) [] H H' s.heap s'.heap) (fun _ _ => False) s
/-- the key at i is less than that at j -/
def kLess (ka kb : Nat → Int) (i j : Nat) : Prop := ka i < ka j ∨ (ka i = ka j ∧ kb i < kb j)
instance (ka kb : Nat → Int) (i j : Nat) : Decidable (kLess ka kb i j) := by unfold kLess; infer_instance
def kBest (ka kb : Nat → Int) (n i : Nat) : Prop := ∀ j, j < n → ¬ kLess ka kb j i ∧ (j < i → kLess ka kb i j)
theorem pair_lt {p pb : Addr} {a b a2 b2 : Int} (J : Inv X pins σ H s) (hp : H p = some (.tup [.int a, .int b])) (hq : H pb = some (.tup [.int a2, .int b2])) (hu : X.A.in1.units < cLine) :
    Ob.RcOp .Lt X.A.in1 s (.ref p) (.ref pb) (decide (a < a2 ∨ (a = a2 ∧ b < b2))) := by
  obtain ⟨_, its, r1, p1⟩ := (show ObjOk X.prog X.w H s.heap p (.tup [.int a, .int b]) from J.hok p _ hp)
  obtain ⟨_, its2, r2, p2⟩ := (show ObjOk X.prog X.w H s.heap pb (.tup [.int a2, .int b2]) from J.hok pb _ hq)
  cases r1 with
  | cons q1 r1 =>
  cases r1 with
  | cons q2 r1 =>
  cases r1
  cases r2 with
  | cons q3 r2 =>
  cases r2 with
  | cons q4 r2 =>
  cases r2
  obtain ⟨t1, rfl⟩ := q1
  obtain ⟨t2, rfl⟩ := q2
  obtain ⟨t3, rfl⟩ := q3
  obtain ⟨t4, rfl⟩ := q4
  obtain ⟨o1, a1, a2', n1, a3⟩ := p1
  obtain ⟨o2, b1, b2', n2, b3⟩ := p2
  have R := Ob.RcOp.tuples_lt (A := X.A.in1) (s := s) (l := p) (b := pb) (items := [Value.int a t1, Value.int b t2].toArray) (items2 := [Value.int a2 t3, Value.int b2 t4].toArray) (e := fun j => if j = 0 then (a == a2) else (b == b2)) (r := fun j => if j = 0 then decide (a < a2) else decide (b < b2))
    ⟨o1, a1, a2', n1, a3⟩ ⟨o2, b1, b2', n2, b3⟩ hu (fun j h1 h2 => by
      match j, h1, h2 with
      | 0, _, _ => exact SeqAt.EqAt.int_int _ _ _ _
      | 1, _, _ => exact SeqAt.EqAt.int_int _ _ _ _
      | n + 2, h1, _ => exact absurd (show n + 2 < 2 from h1) (by omega)) (fun j h1 h2 _ => by
      match j, h1, h2 with
      | 0, _, _ => exact Ob.RcOp.lt_int _ _ _ _
      | 1, _, _ => exact Ob.RcOp.lt_int _ _ _ _
      | n + 2, h1, _ => exact absurd (show n + 2 < 2 from h1) (by omega))
  have e : Ob.lexAt (fun j => if j = 0 then (a == a2) else (b == b2)) (fun j => if j = 0 then decide (a < a2) else decide (b < b2)) (decide ([Value.int a t1, Value.int b t2].toArray.size < [Value.int a2 t3, Value.int b2 t4].toArray.size)) 0 (min [Value.int a t1, Value.int b t2].toArray.size [Value.int a2 t3, Value.int b2 t4].toArray.size) = decide (a < a2 ∨ (a = a2 ∧ b < b2)) := by
    show (if (a == a2) = true then (if (b == b2) = true then decide (2 < 2) else decide (b < b2)) else decide (a < a2)) = _
    by_cases h1 : a = a2
    · by_cases h2 : b = b2
      · simp [h1, h2]
      · simp [h1, h2]
    · simp [h1]
  rw [e] at R
  exact R
theorem up_get {h : Heap} {c : Nat} {its : Array Value} (e : h.get? S = some (seqObj "list" its c)) (vs : Array Value) : ∃ c2, (h.update S (Obj.mapSeq fun _ => vs)).get? S = some (seqObj "list" vs c2) := ⟨_, get?_update_seq e fun _ => vs⟩
theorem min_loop {R : Result → Shared → Prop} (hh : X.A.handled = none) (hu : X.A.in1.units < cLine) (T : KeyRun X pins σ E M I0 H0 adr0 f of xs ka kb) (hl : I0 l = some (.lst xs)) (hSI : S ≠ it) (hfI : f ≠ it) (hfS : f ≠ S)
    (hR : ∀ (i : Nat) (x : V) (u : Value) (s : Shared) (II H : Hp) (adr : List Addr), xs[i]? = some x → RelV x u → kBest ka kb xs.length i → Inv X pins σ H s → Stt II H adr σ E M → Grow I0 H0 adr0 II H adr → R (.ok (.ret u)) s) :
    ∀ (r j i : Nat) (s : Shared) (II H : Hp) (adr : List Addr) (vb : Value) (pb : Addr) (c : Nat) (oI : Obj) (xb : V), xs.length - (j + 1) = r → j + 1 ≤ xs.length → Inv X pins σ H s → Stt II H adr σ E M → Grow I0 H0 adr0 II H adr → Kn X f of H s →
      Kn X S (seqObj "list" #[vb, .ref pb] c) H s → Kn X it oI H s → FpOk X pins H S → FpOk X pins H it → s.heap.IsListIter it l (j + 1) → xs[i]? = some xb → RelV xb vb → II pb = some (.tup [.int (ka i), .int (kb i)]) → i ≤ j → kBest ka kb (j + 1) i →
      codeAny (model X.prog X.w) X.A (.builtin "min.loop" ⟨[.ref it, .ref f, .ref S], []⟩) R s := by
  have nm : (toString "min" ++ toString ".loop" : String) = "min.loop" := by decide
  intro r
  induction r with
  | zero =>
    intro j i s II H adr vb pb c oI xb hr hj J st g kf kS kI fS fI hit hx rx hpb hij hb
    have eL : j + 1 = xs.length := by omega
    have hlH : H l = some (.lst xs) := st.ex _ _ (g.ex _ _ hl)
    obtain ⟨_, us, n, ru, gl⟩ := (show ObjOk X.prog X.w H s.heap l (.lst xs) from J.hok l _ hlH)
    have nlI : l ≠ it := ne_of_none hlH kI.non
    have W := Walks.list (prog := X.prog) (w := X.w) (A := X.A.in1) hh it l nlI us.toArray
    have zs : us.toArray.size = xs.length := by rw [List.size_toArray]; exact ru.length.symm
    refine codeAny_builtin PySem.F.entry_min_loop (Around.under_plainId PySem.F.plain_min_loop _ ▸ ?_)
    refine (show wpAny _ X.A.in1 (seqItems? (.ref S) >>= _) _ _ s from wpAny_bind (wpAny_seqItems kS.get rfl ?_))
    refine (show wpAny _ X.A.in1 (tryCatch (pyNext (.ref it)) _ >>= _) _ _ s from wpAny_bind (wpAny_tryCatch (W.done _ _ _ ⟨by rw [zs, ← eL]; exact hit, _, gl, rfl, n, rfl⟩ fun h1 tk1 k1 => ?_)))
    have gS1 := k1 S _ (by simpa using hSI) kS.get
    refine (show wpAny _ X.A.in1 (updateSeq S (fun _ => #[]) >>= _) _ _ _ from wpAny_bind (wpAny_updateSeq gS1 rfl (wpAny_bind (wpAny_letGo (wpAny_pure ?_)))))
    have sb := Heap.SameBut.update h1 S (Obj.mapSeq fun _ => (#[] : Array Value))
    have J1 := turnedAt (h' := h1) (t' := tk1) J fI fun b o hb e => k1 b o (by simpa using hb) e
    have J2 := turnedAt (h' := h1.update S (Obj.mapSeq fun _ => (#[] : Array Value))) (t' := tk1) J1 fS fun b o hb e => (sb.2 b hb).trans e
    exact hR i xb vb _ II H adr hx rx (eL ▸ hb) J2 st g
  | succ r ih =>
    intro j i s II H adr vb pb c oI xb hr hj J st g kf kS kI fS fI hit hx rx hpb hij hb
    have hlt : j + 1 < xs.length := by omega
    have hlH : H l = some (.lst xs) := st.ex _ _ (g.ex _ _ hl)
    obtain ⟨_, us, n, ru, gl⟩ := (show ObjOk X.prog X.w H s.heap l (.lst xs) from J.hok l _ hlH)
    have nlI : l ≠ it := ne_of_none hlH kI.non
    have W := Walks.list (prog := X.prog) (w := X.w) (A := X.A.in1) hh it l nlI us.toArray
    have zs : us.toArray.size = xs.length := by rw [List.size_toArray]; exact ru.length.symm
    refine codeAny_builtin PySem.F.entry_min_loop (Around.under_plainId PySem.F.plain_min_loop _ ▸ ?_)
    refine (show wpAny _ X.A.in1 (seqItems? (.ref S) >>= _) _ _ s from wpAny_bind (wpAny_seqItems kS.get rfl ?_))
    refine (show wpAny _ X.A.in1 (tryCatch (pyNext (.ref it)) _ >>= _) _ _ s from wpAny_bind (wpAny_tryCatch (W.item (j + 1) _ _ _ (by rw [zs]; exact hlt) ⟨hit, _, gl, rfl, n, rfl⟩ fun v h1 tk1 hv st1 k1 => ?_)))
    obtain ⟨oJ, hoJ, cJ, dJ⟩ := id st1.1
    obtain ⟨y, hy⟩ : ∃ y, xs[j + 1]? = some y := ⟨_, List.getElem?_eq_getElem hlt⟩
    have ry : RelV y v := by
      obtain ⟨v', e1, e2⟩ := ru.get hy
      have e3 : us[j + 1]? = some v := by simpa using hv
      rw [e1] at e3
      cases e3
      exact e2
    have J1 := turnedAt (h' := h1) (t' := tk1) J fI fun b o hb e => k1 b o (by simpa using hb) e
    have kf1 : Kn X f of H { s with heap := h1, toks := tk1 } := kf.mv fun e => k1 f of (by simpa using hfI) e
    have kS1 : Kn X S (seqObj "list" #[vb, .ref pb] c) H { s with heap := h1, toks := tk1 } := kS.mv fun e => k1 S _ (by simpa using hSI) e
    have kI1 : Kn X it oJ H { s with heap := h1, toks := tk1 } := ⟨hoJ, kI.non, kI.nfr⟩
    refine (show wpAny _ X.A.in1 (tryCatch (holding [v] (call (.ref f) [v])) _ >>= _) _ _ _ from wpAny_bind (wpAny_tryCatch (wpAny_holding (wpAny_mono (T (j + 1) y v _ II H adr hy ry J1 st g kf1) (fun w2 s2 he => ?_) fun _ _ hF => hF.elim))))
    obtain ⟨p, I2, H2, adr2, rfl, J2, st2, g2, hp2, un2⟩ := he
    have kf2 := kf1.past un2
    have kS2 := kS1.past un2
    have kI2 := kI1.past un2
    have fS2 := fpPast fS kS2.non
    have fI2 := fpPast fI kI2.non
    have hit2 : s2.heap.IsListIter it l (j + 1 + 1) := ⟨oJ, kI2.get, cJ, dJ⟩
    have hpb2 : I2 pb = some (.tup [.int (ka i), .int (kb i)]) := g2.ex _ _ hpb
    have RC := pair_lt J2 (st2.ex _ _ hp2) (st2.ex _ _ hpb2) hu
    refine (show wpAny _ X.A.in1 (tryCatch (holding [v, .ref p] (richCompare .Lt (.ref p) (.ref pb) >>= _)) _ >>= _) _ _ _ from wpAny_bind (wpAny_tryCatch (wpAny_holding (wpAny_bind (RC X.prog X.w _ _ ?_)))))
    refine wpAny_bind (wpAny_holding (wpAny_truthy_bool (wpAny_bind (wpAny_letGo (wpAny_pure ?_)))))
    by_cases hc : kLess ka kb (j + 1) i
    · have hd : decide (ka (j + 1) < ka i ∨ (ka (j + 1) = ka i ∧ kb (j + 1) < kb i)) = true := decide_eq_true hc
      simp only [hd, if_true]
      have sb := Heap.SameBut.update s2.heap S (Obj.mapSeq fun _ => #[v, .ref p])
      obtain ⟨c2, gS2⟩ := up_get kS2.get #[v, .ref p]
      refine wpAny_bind (wpAny_updateSeq kS2.get rfl (wpAny_bind (wpAny_letGo ?_)))
      rw [nm]
      have J3 := turnedAt (h' := s2.heap.update S (Obj.mapSeq fun _ => #[v, .ref p])) (t' := s2.toks) J2 fS2 fun b o hb e => (sb.2 b hb).trans e
      refine wpAny_pure ⟨plainId_quiet PySem.F.plain_min_loop _, ih (j + 1) (j + 1) _ I2 H2 adr2 v p c2 oJ y (by omega) hlt J3 st2 (g.trans g2) (kf2.mv fun e => (sb.2 f hfS).trans e) ⟨gS2, kS2.non, kS2.nfr⟩ (kI2.mv fun e => (sb.2 it hSI.symm).trans e) fS2 fI2
        ⟨oJ, (sb.2 it hSI.symm).trans kI2.get, cJ, dJ⟩ hy ry hp2 (Nat.le_refl _) fun j' hj' => ?_⟩
      unfold kBest kLess at *
      by_cases e : j' = j + 1
      · subst e
        omega
      · have h1 := hb j' (by omega)
        omega
    · have hd : decide (ka (j + 1) < ka i ∨ (ka (j + 1) = ka i ∧ kb (j + 1) < kb i)) = false := decide_eq_false hc
      simp only [hd, Bool.false_eq_true, if_false]
      refine wpAny_bind (wpAny_letGo ?_)
      rw [nm]
      refine wpAny_pure ⟨plainId_quiet PySem.F.plain_min_loop _, ih (j + 1) i _ I2 H2 adr2 vb pb c oJ xb (by omega) hlt J2 st2 (g.trans g2) kf2 kS2 kI2 fS2 fI2 hit2 hx rx hpb2 (by omega) fun j' hj' => ?_⟩
      by_cases e : j' = j + 1
      · subst e
        exact ⟨hc, fun z => by omega⟩
      · exact hb j' (by omega)
theorem min_call {Q : Value → Shared → Prop} {Er : Value → Shared → Prop} (hh : X.A.handled = none) (hu : X.A.in1.units < cLine) (T : KeyRun X pins σ E M I0 H0 adr0 f of xs ka kb) (hl : I0 l = some (.lst xs)) (hn : 0 < xs.length) (J : Inv X pins σ H s) (st : Stt II H adr σ E M) (g : Grow I0 H0 adr0 II H adr) (kf : Kn X f of H s)
    (hQ : ∀ (i : Nat) (x : V) (u : Value) (s : Shared) (II H : Hp) (adr : List Addr), xs[i]? = some x → RelV x u → kBest ka kb xs.length i → Inv X pins σ H s → Stt II H adr σ E M → Grow I0 H0 adr0 II H adr → Q u s) :
    wpAny (model X.prog X.w) X.A (call (.builtin "min") [.ref l] [(Str.ofString "key", .ref f)]) Q Er s := by
  have nm : (toString "min" ++ toString ".loop" : String) = "min.loop" := by decide
  have hlH : H l = some (.lst xs) := st.ex _ _ (g.ex _ _ hl)
  obtain ⟨_, us, n, ru, gl⟩ := (show ObjOk X.prog X.w H s.heap l (.lst xs) from J.hok l _ hlH)
  refine kmk_tree PySem.F.kind_min PySem.F.plain_min PySem.F.entry_min (kmk_min_key _ _) ?_
  refine (show wpAny _ X.A.in1 (Builtin.Builtins.bindParams "min" ["key", "default"] 0 ⟨[], [(Str.ofString "key", .ref f)]⟩ >>= _) _ _ s from wpAny_bind (wpAny_of_eq (show Builtin.Builtins.bindParams "min" ["key", "default"] 0 ⟨[], [(Str.ofString "key", Value.ref f)]⟩ = pure [some (.ref f), none] from rfl) (wpAny_bind (wpAny_pure ?_))))
  have isl : s.heap.IsList l us.toArray := ⟨_, gl, rfl, n, rfl⟩
  refine wpAny_bind (wpAny_pyIter_list isl (wpAny_bind (wpAny_newList ?_ (Nat.zero_le _))))
  rw [nm]
  generalize eh1 : s.heap.push { cls := .type "list_iterator", data := .fields #[.ref l, .int 0 0] } = h1
  have z1 : h1.objs.size = s.heap.objs.size + 1 := by rw [← eh1]; exact size_push' ..
  have kp1 : ∀ b o, s.heap.get? b = some o → h1.get? b = some o := fun b o e => by rw [← eh1]; exact Heap.get?_push_of_some _ e
  have gI1 : h1.get? s.heap.objs.size = some { cls := .type "list_iterator", data := .fields #[.ref l, .int 0 0] } := by rw [← eh1]; exact Heap.get?_push_size _ rfl
  generalize eh2 : h1.push (seqObj "list" #[] 0) = h2
  have kp2 : ∀ b o, h1.get? b = some o → h2.get? b = some o := fun b o e => by rw [← eh2]; exact Heap.get?_push_of_some _ e
  have gS2 : h2.get? h1.objs.size = some (seqObj "list" #[] 0) := by rw [← eh2]; exact Heap.get?_push_size _ rfl
  have eS : h1.objs.size ≠ s.heap.objs.size := by omega
  have kp : ∀ b o, s.heap.get? b = some o → h2.get? b = some o := fun b o e => kp2 b o (kp1 b o e)
  have lf : f < s.heap.objs.size := Heap.lt_size kf.get
  have ll : l < s.heap.objs.size := Heap.lt_size gl
  have nfS : f ≠ h1.objs.size := Nat.ne_of_lt (by rw [z1]; exact Nat.lt_succ_of_lt lf)
  refine wpAny_pure ⟨plainId_quiet PySem.F.plain_min_loop _, ?_⟩
  have J2 : Inv X pins σ H { s with heap := h2 } := J.kept (t' := s.toks) kp
  have nI : H s.heap.objs.size = none := J.hok.fresh (Nat.le_refl _)
  have nS : H h1.objs.size = none := J.hok.fresh (by omega)
  have fI : FpOk X pins H s.heap.objs.size := J.fpOk (Nat.le_refl _) nI
  have fS : FpOk X pins H h1.objs.size := J.fpOk (by omega) nS
  have nofr : ∀ b, s.heap.objs.size ≤ b → b ∉ frs X.stack := fun b hb z => by
    rcases List.mem_cons.mp (J.stkSub _ z) with e | e
    · exact Nat.lt_irrefl _ (Nat.lt_of_lt_of_le (e ▸ J.lt) hb)
    · exact J.nofs hb e
  have kI2 : Kn X s.heap.objs.size _ H { s with heap := h2 } := ⟨kp2 _ _ gI1, nI, nofr _ (Nat.le_refl _)⟩
  have kS2 : Kn X h1.objs.size _ H { s with heap := h2 } := ⟨gS2, nS, nofr _ (by omega)⟩
  have kf2 : Kn X f of H { s with heap := h2 } := kf.mv fun e => kp _ _ e
  have W := Walks.list (prog := X.prog) (w := X.w) (A := X.A.in1) hh s.heap.objs.size l (Nat.ne_of_lt ll) us.toArray
  have zs : us.toArray.size = xs.length := by rw [List.size_toArray]; exact ru.length.symm
  refine codeAny_builtin PySem.F.entry_min_loop (Around.under_plainId PySem.F.plain_min_loop _ ▸ ?_)
  refine (show wpAny _ X.A.in1 (seqItems? (.ref h1.objs.size) >>= _) _ _ _ from wpAny_bind (wpAny_seqItems gS2 rfl ?_))
  refine (show wpAny _ X.A.in1 (tryCatch (pyNext (.ref s.heap.objs.size)) _ >>= _) _ _ _ from wpAny_bind (wpAny_tryCatch (W.item 0 _ _ _ (by rw [zs]; exact hn) ⟨⟨_, kI2.get, rfl, rfl⟩, ⟨_, kp _ _ gl, rfl, n, rfl⟩⟩ fun v h3 tk3 hv st3 k3 => ?_)))
  obtain ⟨oJ, hoJ, cJ, dJ⟩ := id st3.1
  obtain ⟨y, hy⟩ : ∃ y, xs[0]? = some y := ⟨_, List.getElem?_eq_getElem hn⟩
  have ry : RelV y v := by
    obtain ⟨v', e1, e2⟩ := ru.get hy
    have e3 : us[0]? = some v := by simpa using hv
    rw [e1] at e3
    cases e3
    exact e2
  have J3 := turnedAt (h' := h3) (t' := tk3) J2 fI fun b o hb e => k3 b o (by simpa using hb) e
  have kf3 : Kn X f of H { s with heap := h3, toks := tk3 } := kf2.mv fun e => k3 f of (by simpa using Nat.ne_of_lt lf) e
  have kS3 : Kn X h1.objs.size (seqObj "list" #[] 0) H { s with heap := h3, toks := tk3 } := kS2.mv fun e => k3 _ _ (by simp; omega) e
  have kI3 : Kn X s.heap.objs.size oJ H { s with heap := h3, toks := tk3 } := ⟨hoJ, nI, kI2.nfr⟩
  refine (show wpAny _ X.A.in1 (tryCatch (holding [v] (call (.ref f) [v])) _ >>= _) _ _ _ from wpAny_bind (wpAny_tryCatch (wpAny_holding (wpAny_mono (T 0 y v _ II H adr hy ry J3 st g kf3) (fun w2 s2 he => ?_) fun _ _ hF => hF.elim))))
  obtain ⟨p, I4, H4, adr4, rfl, J4, st4, g4, hp4, un4⟩ := he
  have kf4 := kf3.past un4
  have kS4 := kS3.past un4
  have kI4 := kI3.past un4
  have fS4 := fpPast fS kS4.non
  have fI4 := fpPast fI kI4.non
  have sb := Heap.SameBut.update s2.heap h1.objs.size (Obj.mapSeq fun _ => #[v, .ref p])
  obtain ⟨c2, gS4⟩ := up_get kS4.get #[v, .ref p]
  refine (show wpAny _ X.A.in1 (updateSeq h1.objs.size (fun _ => #[v, .ref p]) >>= _) _ _ _ from wpAny_bind (wpAny_updateSeq kS4.get rfl ?_))
  rw [nm]
  have J5 := turnedAt (h' := s2.heap.update h1.objs.size (Obj.mapSeq fun _ => #[v, .ref p])) (t' := s2.toks) J4 fS4 fun b o hb e => (sb.2 b hb).trans e
  refine wpAny_pure ⟨plainId_quiet PySem.F.plain_min_loop _, min_loop hh hu T hl eS (Nat.ne_of_lt lf) nfS (fun i x u s II H adr a b c d e f => hQ i x u s II H adr a b c d e f) _ 0 0 _ I4 H4 adr4 v p c2 oJ y rfl hn J5 st4 (g.trans g4) (kf4.mv fun e => (sb.2 f nfS).trans e) ⟨gS4, kS4.non, kS4.nfr⟩
    (kI4.mv fun e => (sb.2 _ eS.symm).trans e) fS4 fI4 ⟨oJ, (sb.2 _ eS.symm).trans kI4.get, cJ, dJ⟩ hy ry hp4 (Nat.le_refl _) fun j' hj' => ?_⟩
  have e : j' = 0 := by omega
  subst e
  exact ⟨by unfold kLess; omega, fun h => by omega⟩
end
end Ab
/-! Ab: a lambda of one parameter as a key. -/
namespace Ab
open PySem PySem.Spec PyProof.Rows L2 NdefX LamX
variable [TabCtx]
abbrev lamC (g : Pg) (N : List Str) (scope : Scope) (k : Nat) : Cc := ⟨g, N, scope, fun _ => false, k, W0, none⟩
/-- the slots of the lambda's body -/
def lamE (N : List Str) (o : O) (cs : List O) : List O := o :: (cs ++ List.replicate (N.length - 1 - cs.length) .no)
section
variable {C : Cc} {X : Cx} {pins : List (Addr × Obj)} {σ : L2.St} {E cs : List O} {M : Mem} {I0 H0 II H : Hp} {adr0 adr : List Addr} {s : Shared} {f c' : Addr} {xs : List V} {ds : List D} {ka kb : Nat → Int} {N fr : List Str} {p : Str} {js : List Nat} {k : Nat}
  {params : Arguments} {body : Expr} {scope : Scope} {pm ctv : Value} {qual : Str}
theorem key_run (hX : CxIs C X) (hr : Room (k + 2) X.A) (SN : NScope N [p] fr scope) (hb : ∀ (pm cd ct u : Value) (q : Str) (cl : List (Str × Addr)), bindArgs (PySem.W.kla_fn "<lambda>" q params body scope cl pm cd ct) ⟨[u], []⟩ = pure [(p, u)])
    (hfree : ∀ y ∈ scope.names, y.2 = .free → X.env.scope.names.lookup y.1 = some .cell ∨ X.env.scope.names.lookup y.1 = some .free) (hfr : ∀ y ∈ fr, (y, NameKind.free) ∈ scope.names) (hjs : js.map (fun j => X.N[j]?) = fr.map some)
    (hcs : js.map (fun j => E[j]?) = cs.map some) (hc0 : H0 c' = some (CodeO c' qual)) (hxs : Reps I0 ds xs)
    (hbody : ∀ (j : Nat) (d : D), ds[j]? = some d → EV (lamC C.g N scope k) body (lamE N (.dat d) cs) M (.dat (.tup [.int (ka j), .int (kb j)])) M) :
    KeyRun X pins σ E M I0 H0 adr0 f (PySem.W.kla_obj "<lambda>" qual params body scope (cloFrom X.env.cells scope.names []) pm c' ctv) xs ka kb := by
  intro j x u s II H adr hx ru J st g kf
  have caps : Caps X (cloFrom X.env.cells scope.names []) fr js := Caps.made J.ok hfree hfr hjs
  have hcl : js.length = fr.length := by
    have := congrArg List.length hjs
    simpa using this
  have hcn : cs.length = fr.length := by
    have := congrArg List.length hcs
    simp at this
    omega
  have hc : H c' = some (CodeO c' qual) := g.code _ _ hc0
  let F : NF := ⟨"<lambda>", qual, params, [], scope, cloFrom X.env.cells scope.names [], c'⟩
  obtain ⟨d, hd, rd⟩ : ∃ d, ds[j]? = some d ∧ Rep II d x := by
    have hj : j < ds.length := by
      rw [hxs.length]
      exact (List.getElem?_eq_some_iff.mp hx).1
    obtain ⟨v, e1, e2⟩ := hxs.get (List.getElem?_eq_getElem hj)
    rw [hx] at e1
    cases e1
    exact ⟨_, List.getElem?_eq_getElem hj, e2.mono g.ex⟩
  refine wpAny_call (A := X.A.in1) ?_
  have key : codeAny (model X.prog X.w) X.A.in1 (.call (.ref f) ⟨[u], []⟩) (CR CX0 X.stack X.prog X.w H s (fun v H' => ∃ p I' adr', v = .ref p ∧ Stt I' H' adr' σ E M ∧ Grow II H adr I' H' adr' ∧ I' p = some (.tup [.int (ka j), .int (kb j)])) (fun _ _ _ => False)) s := by
    refine PySem.W.kla_callFunE hr.in1.depth kf.get rfl SN.co SN.gen rfl (codeO_at J.hok hc) ?_
    rw [hb]
    refine wpAny_pure (wpAny_newFunctionEnv SN.nocell (fun y hy => ?_) (fun h₁ hns hsb => ⟨J.nolimit.fresh _ hsb, ?_⟩) SN.kind)
    · have e : y = (p, u) := by simpa using hy
      subst e
      exact SN.par p (by simp)
    show codeAny _ _ (.expr body (envF F f s.heap.objs.size)) _ _
    have kp : ∀ b o, s.heap.get? b = some o → h₁.get? b = some o := fun b o e => hsb.extBut b o (Nat.ne_of_lt (Heap.lt_size e)) (Heap.get?_push_of_some _ e)
    have hr2 : Room k (X.A.in1.deeper (envF F f s.heap.objs.size)) := hr.in1.deeper _
    have IN : Inv (ncx CX0 X.prog X.w X.K X.mg X.base N F f X.A.in1 X.stack s H (fun _ _ _ => False)) [] (startF N [x] (js.map (slotAt σ))) H { s with heap := h₁, toks := s.toks + [(p, u)].length } :=
      inv_startN (F := F) (us := [u]) SN hr.in1.hd J.env0.in1 rfl (.cons ru .nil) (cells_of J caps) hns kp
    have hX' : CxIs (lamC C.g N scope k) (ncx CX0 X.prog X.w X.K X.mg X.base N F f X.A.in1 X.stack s H (fun _ _ _ => False)) :=
      ⟨hX.P, hX.w, hX.K, hX.mg, hX.base, rfl, rfl, rfl, hr2, passes_of rfl, takes0, fun x z => (by cases z), fun _ _ z => (by cases z), ⟨_, _, rfl, SN.gen, SN.co, rfl, rfl⟩⟩
    have st' : Stt II H adr (startF N [x] (js.map (slotAt σ))) (lamE N (.dat d) cs) M := by
      refine ⟨st.ex, st.sto, ?_, fun i o ov h1 h2 => ?_⟩
      · unfold lamE startF
        simp
        omega
      · unfold lamE at h1
        unfold startF at h2
        match i with
        | 0 =>
          simp at h1 h2
          subst h1
          subst h2
          exact rd
        | i + 1 =>
          simp only [List.map_cons, List.map_nil, List.cons_append, List.nil_append, List.getElem?_cons_succ] at h1 h2
          by_cases hi : i < cs.length
          · rw [List.getElem?_append_left hi] at h1
            rw [List.getElem?_append_left (by rw [List.length_map, hcl, ← hcn]; exact hi), List.getElem?_map] at h2
            have e := congrArg (fun l => l[i]?) hcs
            simp only [List.getElem?_map] at e
            rw [h1] at e
            cases ej : js[i]? with
            | none => rw [ej] at e; cases e
            | some jj =>
              rw [ej] at e h2
              have e1 : E[jj]? = some o := Option.some.inj e
              have e2 : slotAt σ jj = ov := Option.some.inj h2
              have hl : jj < σ.length := by
                rw [← st.len]
                exact (List.getElem?_eq_some_iff.mp e1).1
              have e3 := st.slot jj o σ[jj] e1 (List.getElem?_eq_getElem hl)
              have e4 : slotAt σ jj = σ[jj] := by
                unfold NdefX.slotAt
                rw [List.getElem?_eq_getElem hl]
              rw [← e2, e4]
              exact e3
          · rw [List.getElem?_append_right (Nat.le_of_not_lt hi)] at h1
            have e : o = .no := List.eq_of_mem_replicate (List.mem_of_getElem? h1)
            subst e
            cases ov with
            | none => rfl
            | some w => exact True.intro
    refine PySem.W.kla_codeExpr (wpAny_mono ((ue hX' body).run [] _ _ H (fun v H' => ∃ p I' adr', v = .ref p ∧ Stt I' H' adr' σ E M ∧ Grow II H adr I' H' adr' ∧ I' p = some (.tup [.int (ka j), .int (kb j)])) IN (hbody j d hd II H adr _ _ st' fun v I' H' adr' s' g' v' => ?_)) (fun v s' hq => ?_) fun e s' hq => hq)
    · cases (show Rep I' (.tup [.int (ka j), .int (kb j)]) v from v') with
      | tup h r =>
      cases r with
      | cons r1 r =>
      cases r with
      | cons r2 r =>
      cases r
      cases r1
      cases r2
      exact ⟨_, I', adr', rfl, st.mono g' s'.ex s'.sto, g', h⟩
    · obtain ⟨w', H', J', rv, q⟩ := hq
      exact ⟨w', H', J'.os, J'.bare, J'.base, J'.hok, rv, q⟩
  refine codeAny_mono key fun r s' hq => ?_
  cases r with
  | error e => exact hq.elim
  | ok fl =>
    cases fl with
    | next => exact False.elim hq
    | brk => exact False.elim hq
    | cont => exact False.elim hq
    | ret v =>
      obtain ⟨w', H', os, bare, un, hok, rv, pp, I', adr', rfl, st2, g2, hp⟩ := hq
      obtain ⟨hh, gg, d, t, os'⟩ := s'
      obtain rfl : os' = s.os := os
      exact ⟨pp, I', H', adr', rv, J.call (h' := hh) (g' := gg) (d' := d) (t' := t) (ch := []) un hok bare (fun b z => absurd z (by simp)), st2, g2, hp, un⟩
end
end Ab
/-! Ab: min with a key, large quotients, objects whose fields are cells. -/
namespace Ab
open PySem PySem.Spec PyProof.Rows L2 NdefX LamX
variable [TabCtx]
section
variable {C : Cc} {E E1 E2 E' cs : List O} {M M1 M2 M3 M' : Mem} {o o1 o2 o3 : O} {os : List O} {e a b c tg iter body : Expr} {es : List Expr} {pos pos' p kp lpos apos : Pos} {d d1 d2 : D} {ds : List D} {i j : Int} {r : Out}
theorem Stt.extN {I H H2 : Hp} {adr : List Addr} {σ : L2.St} (s : Stt I H adr σ E M) (e : ExtN H H2) (t : Tabs TabCtx.T H2) : Stt I H2 adr σ E M ∧ Grow I H adr I H2 adr := by
  have g : Grow I H adr I H2 adr := ⟨Ex.refl _, ⟨[], by simp, by simp⟩, fun q u h n _ => e q u h n, fun q u h n => ⟨u, e q u h n, n⟩, fun _ _ _ _ h _ => h, fun c q h => e _ _ h codeO_ne⟩
  refine ⟨s.mono g (fun q u h => e q u (s.ex q u h) (s.sto.amb.nt q u h)) ⟨s.sto.len, s.sto.nd, fun k a os h1 h2 => ?_, fun k a h => ?_, ⟨t, s.sto.amb.nt⟩⟩, g⟩
  · obtain ⟨c1, xs, c2, c3⟩ := s.sto.cell k a os h1 h2
    exact ⟨c1, xs, e _ _ c2 NT.lst, c3⟩
  · obtain ⟨u, hu, n⟩ := s.sto.dom k a h
    exact ⟨u, e _ _ hu n, n⟩
theorem kBest_uniq {ka kb : Nat → Int} {n i j : Nat} (h1 : kBest ka kb n i) (h2 : kBest ka kb n j) (hi : i < n) (hj : j < n) : i = j := by
  rcases Nat.lt_trichotomy i j with h | h | h
  · exact absurd ((h2 i hi).2 h) (h1 j hj).1
  · exact h
  · exact absurd ((h1 j hj).2 h) (h2 i hi).1
/-- min(list, key=lambda x: a pair) -/
theorem EV.minKey {q x : Str} {cA P : Addr} {N fr : List Str} {pn : Str} {js : List Nat} {k n : Nat} {ka kb : Nat → Int} {params : Arguments} {scope : Scope} {lb : Expr}
    (hl : EV C e E M (.dat (.lst ds)) M) (hcd : C.cd = some (.ref cA, q)) (TB : TabB C.g.base C.g.mg cA P) (hmT : (P, q ++ "<lambda>") ∈ TabCtx.T) (hu : ∀ p ∈ TabCtx.T, p.1 = P → p.2 = q ++ "<lambda>") (SN : NScope N [pn] fr scope) (hnd : ndefB C.sc scope fr = true)
    (hb : ∀ (pm cd ct u : Value) (q : Str) (cl : List (Str × Addr)), bindArgs (PySem.W.kla_fn "<lambda>" q params lb scope cl pm cd ct) ⟨[u], []⟩ = pure [(pn, u)])
    (hjs : js.map (fun j => C.N[j]?) = fr.map some) (hcs : js.map (fun j => E[j]?) = cs.map some) (hk : k + 2 ≤ C.k)
    (hbody : ∀ (j : Nat) (d : D), ds[j]? = some d → EV (lamC C.g N scope k) lb (lamE N (.dat d) cs) M (.dat (.tup [.int (ka j), .int (kb j)])) M)
    (hbest : kBest ka kb ds.length n) (hd : ds[n]? = some d) (hm : Bt C.g "min") (hx : x = "min" := by rfl) (hg : C.sc.names.lookup x = some .globalImplicit := by rfl)
    (hdef : ∀ env, defaultsOf params env = ([], []) := by intro _; rfl) (hs : ∀ env, starEach [e] env = (false, eval e env) :: starEach [] env := by intro _; rfl)
    (he : ∀ env, backTo pos (starEach [e] env) = (false, eval e env) :: backTo pos (starEach [] env) := by intro _; rfl)
    (hpl : ∀ env, (backTo pos (starEach [e] env)).any (·.1) = false := by intro _; rfl) :
    EV C (.Call (.Name x p) [e] [⟨some "key", .Lambda params lb scope lpos, kp⟩] pos) E M (.dat d) M := by
  subst hx
  refine EV.mk (t := fun σ H Q => ∃ I adr, Stt I H adr σ E M ∧ ∀ v I' H' adr', Stt I' H' adr' σ E M → Grow I H adr I' H' adr' → Vo I' adr' (.dat d) v → Q v H') (fun X hX => ⟨fun pins s σ H Q J h => ?_⟩) fun I H adr σ Q s q => ⟨I, adr, s, q⟩
  obtain ⟨I, adr, st, hq⟩ := h
  obtain ⟨hc1, hc2⟩ := hX.cd _ _ hcd
  refine wpAny_Call_Name_kw (ld_blt J (by show X.env.scope.names.lookup _ = _; rw [hX.sc]; exact hg) (by rw [hX.mg]; exact hm) boot_min ?_ (by decide) (by decide))
  refine callWith_kw ?_ (he X.env) (hpl X.env) rfl rfl
  refine thn ((pa_cons (ue hX e) pa_nil (hs X.env)).run pos pins s σ H (fun vs H1 => ∃ I1 adr1 l xs, vs = [V.ref l] ∧ Stt I1 H1 adr1 σ E M ∧ Grow I H adr I1 H1 adr1 ∧ I1 l = some (.lst xs) ∧ Reps I1 ds xs) J (hl I H adr σ _ st fun v I1 H1 adr1 s1 g1 v1 => ?_)) fun us s1 hv => ?_
  · cases (show Rep I1 (.lst ds) v from v1) with
    | lst h r => exact ⟨I1, adr1, _, _, rfl, s1, g1, h, r⟩
  obtain ⟨vs, H1, J1, rv, I1, adr1, l, xs, rfl, s1', g1, hl1, hr1⟩ := hv
  cases rv with
  | cons r0 rv =>
  cases rv
  obtain rfl := (show _ = Value.ref l from r0)
  have hfree := ndef_free hnd
  have hfree' : ∀ y ∈ scope.names, y.2 = .free → ∃ c, X.env.cells.lookup y.1 = some c := fun y hy e => by
    have z := hfree y hy e
    rw [← hX.sc] at z
    exact z.elim (fun z => J1.ok.has _ (.inl z)) fun z => J1.ok.has _ (.inr z)
  refine kws_cons (lam_make2 (T := TabCtx.T) J1 (by rw [hX.base, hX.mg]; exact TB) hc1 (by rw [hc2]; exact hmT) (by rw [hc2]; exact hu) s1'.sto.amb.tabs (hdef X.env) hfree' fun f c' pm ctv H2 s2 J2 eN T2 gf nf ff hco => kws_nil ?_)
  obtain ⟨st2, g2⟩ := s1'.extN eN T2
  have hR : Room (k + 2) X.A := hX.room.mono hk
  have hn : n < xs.length := by
    rw [← hr1.length]
    exact (List.getElem?_eq_some_iff.mp hd).1
  have T := key_run (k := k) (C := C) (E := E) (M := M) (pins := pins) (σ := σ) (I0 := I1) (H0 := H2) (adr0 := adr1) (f := f) (xs := xs) (ds := ds) (ka := ka) (kb := kb) (N := N) (fr := fr) (p := pn) (js := js) (cs := cs) (params := params) (body := lb) (scope := scope) (pm := pm) (ctv := ctv) (qual := X.env.qual ++ "<lambda>") (c' := c')
    hX hR SN hb (by rw [hX.sc]; exact hfree) (ndef_fr hnd) (by rw [hX.N]; exact hjs) hcs hco hr1 hbody
  refine min_call hR.hd (by have := hR.un; show X.A.units + 1 < cLine; omega) T hl1 (by omega) J2 st2 Grow.refl ⟨gf, nf, ff⟩ fun i x u s3 I3 H3 adr3 hx ru hb3 J3 st3 g3 => ?_
  rw [← hr1.length] at hb3
  have hi : i < ds.length := by
    rw [hr1.length]
    exact (List.getElem?_eq_some_iff.mp hx).1
  have e := kBest_uniq hb3 hbest hi (by rw [hr1.length]; exact hn)
  subst e
  obtain ⟨x', e1, e2⟩ := hr1.get hd
  rw [hx] at e1
  cases e1
  exact ⟨x, H3, J3, ru, hq x I3 H3 adr3 st3 ((g1.trans g2).trans g3) (e2.mono g3.ex)⟩
/-! ### quotients of any size -/
theorem op_fdivX {X : Cx} (hX : CxIs C X) (ns : C.g.base.NoSeer) (ht : C.g.P.given.tree = none) (hk : 32 ≤ C.k) : OpR X (binaryOp .FloorDiv) (rI (fun _ j => j ≠ 0) fun i j => .int (i.fdiv j)) := by
  intro pins s σ H x y v u Q J rx ry h
  obtain ⟨i, j, rfl, rfl, hc, q⟩ := h
  obtain ⟨t, rfl⟩ := rx
  obtain ⟨t', rfl⟩ := ry
  obtain ⟨env, l, e1, e2, e3, e4, e5⟩ := hX.fr
  refine floordiv_int hc ⟨.int (i.fdiv j), H, J.tok _, ⟨_, rfl⟩, q⟩ (.inr (PySem.PylongRoom.of J.nolimit ?_ (PySem.SeerAt.of (env := env) (l := l) ?_ ?_ ?_ e2 e3 e4 e5)))
  · have := hX.room.dp
    show X.A.depth + 100 < recursionLimit
    omega
  · have : X.base.NoSeer := by rw [hX.base]; exact ns
    exact this.keeps J.bk
  · show X.prog.given.tree = none
    rw [hX.P]
    exact ht
  · rw [J.ok.frames, e1]
theorem BS.fdivX (ns : C.g.base.NoSeer) (ht : C.g.P.given.tree = none) (hj : j ≠ 0) (hk : Nat.ble 32 C.k = true := by rfl) : BS C .FloorDiv (.dat (.int i)) (.dat (.int j)) M (.dat (.int (i.fdiv j))) M :=
  ⟨_, fun X hX => op_fdivX hX ns ht (Nat.le_of_ble_eq_true hk), ro_I hj fun _ => .int _⟩
/-! ### objects whose fields are cells -/
abbrev FPair (adr : List Addr) : List (Str × Nat) → List (Str × V) → Prop := Paired fun (f : Str × Nat) (g : Str × V) => f.1 = g.1 ∧ ∃ a, adr[f.2]? = some a ∧ g.2 = .ref a
theorem fpLook {adr : List Addr} {f : Str} {k : Nat} : ∀ {fs : List (Str × Nat)} {gs : List (Str × V)}, FPair adr fs gs → fs.lookup f = some k → ∃ a, adr[k]? = some a ∧ gs.lookup f = some (.ref a)
  | _, _, .nil, h => by cases h
  | (x, n) :: fs, (y, v) :: gs, .cons q r, h => by
    obtain ⟨e, a, e1, e2⟩ := q
    obtain rfl : x = y := e
    by_cases hx : (f == x) = true
    · rw [List.lookup_cons, hx] at h
      rw [List.lookup_cons, hx]
      cases h
      exact ⟨a, e1, by rw [show v = V.ref a from e2]⟩
    · have hx' : (f == x) = false := by simpa using hx
      rw [List.lookup_cons, hx'] at h
      rw [List.lookup_cons, hx']
      exact fpLook r h
theorem fpNone {adr : List Addr} {f : Str} : ∀ {fs : List (Str × Nat)} {gs : List (Str × V)}, FPair adr fs gs → fs.lookup f = none → gs.lookup f = none
  | _, _, .nil, h => rfl
  | (x, n) :: fs, (y, v) :: gs, .cons q r, h => by
    obtain ⟨e, _⟩ := q
    obtain rfl : x = y := e
    by_cases hx : (f == x) = true
    · rw [List.lookup_cons, hx] at h
      cases h
    · have hx' : (f == x) = false := by simpa using hx
      rw [List.lookup_cons, hx'] at h
      rw [List.lookup_cons, hx']
      exact fpNone r h
theorem fpPut {adr : List Addr} {f : Str} {k : Nat} {a : Addr} (ha : adr[k]? = some a) : ∀ {fs : List (Str × Nat)} {gs : List (Str × V)}, FPair adr fs gs → fs.lookup f = none → FPair adr (fs ++ [(f, k)]) (putF f (.ref a) gs)
  | _, _, .nil, h => .cons ⟨rfl, a, ha, rfl⟩ .nil
  | (x, n) :: fs, (y, v) :: gs, .cons q r, h => by
    obtain ⟨e, e2⟩ := q
    obtain rfl : x = y := e
    by_cases hx : (f == x) = true
    · rw [List.lookup_cons, hx] at h
      cases h
    · have hx' : (f == x) = false := by simpa using hx
      rw [List.lookup_cons, hx'] at h
      show FPair adr ((x, n) :: (fs ++ [(f, k)])) (if x = f then (x, .ref a) :: gs else (x, v) :: putF f (.ref a) gs)
      rw [if_neg (fun z => by rw [z] at hx'; simp at hx')]
      exact .cons ⟨rfl, e2⟩ (fpPut ha r h)
theorem fpLen {adr : List Addr} {fs : List (Str × Nat)} {gs : List (Str × V)} (h : FPair adr fs gs) : fs.length = gs.length := Paired.length h
theorem EV.fld {Ca : Addr} {fs : List (Str × Nat)} {f : Str} {k : Nat} (he : EV C e E M (.obj Ca fs) M') (cl : Cls C.g.K Ca) (na : NoAttr C.g.K Ca f) (hl : fs.lookup f = some k := by rfl) (hb : ∀ env, attributeBase e f env (eval e env) = eval e env := by intro _; rfl) : EV C (.Attribute e f pos) E M (.adr k) M' :=
  EV.mk (t := tFld C.g.K (UE C e) f) (fun X hX => by
    have := pe_fld (f := f) (pos := pos) (ue hX e) (hb X.env)
    rw [hX.K] at this
    exact this) fun I H adr σ Q s q => he I H adr σ _ s fun v I1 H1 adr1 s1 g1 v1 => by
      obtain ⟨p, dx, gs, rfl, h2, h3⟩ := v1
      obtain ⟨a, e1, e2⟩ := fpLook h3 hl
      exact ⟨p, Ca, dx, gs, .ref a, rfl, s1.ex _ _ h2, cl, na, e2, q _ I1 H1 adr1 s1 g1 ⟨a, e1, rfl⟩⟩
/-- the method m keeps R -/
def MT (g : Pg) (Ca : Addr) (m : Str) (k : Nat) (R : Rel) : Prop := ∃ (f : Addr) (fd : FuncData) (ps : List Str), Meth g.K Ca m f ∧ FnOk g.P g.w g.K g.mg g.base CX0 k f fd ps (spR R) ∧ Binds g.K fd ps []
theorem EV.meth {Ca : Addr} {fs : List (Str × Nat)} {m : Str} {kf : Nat} {R : Rel} {os0 : List O} {o0 : O} {M0 M0' : Mem} {ι : List Nat} (F : MT C.g Ca m kf R) (ho : EV C a E M (.obj Ca fs) M1) (ha : EA C (e :: es) E M1 os M2) (cl : Cls C.g.K Ca) (hR : R os0 M0 o0 M0')
    (hos : .obj Ca fs :: os = os0.map (·.ren (rho ι M2.length))) (mx : Mix ι M2 M0 M0' M3) (hl : fs.lookup m = none := by rfl) (hk : Nat.ble kf C.k = true := by rfl)
    (hst : ∀ env, starEach (e :: es) env = (false, eval e env) :: starEach es env := by intro _; rfl) (hpl : ∀ env, (backTo pos (starEach es env)).any (·.1) = false := by intro _; rfl)
    (ht : ∀ env, ∃ pl : Sem Bool, eval (.Call (.Attribute a m apos) (e :: es) [] pos) env = (do
      let ov ← eval a env
      standAt apos.atName
      let (f, first) ← holding [ov] (getMethod ov m pl)
      callWith pos f first (backTo pos (starEach (e :: es) env)) (backToKw pos (keywordEach [] env))) := by intro _; exact ⟨_, rfl⟩) :
    EV C (.Call (.Attribute a m apos) (e :: es) [] pos) E M (o0.ren (rho ι M2.length)) M3 := by
  obtain ⟨f, fd, ps, hm, F, hb⟩ := F
  refine EV.mk (t := tMeth Ca m (spR R) [] E0 (UE C a) (UA C (e :: es))) (fun X hX => ?_) fun I H adr σ Q s q => ?_
  · obtain ⟨pl, hpl'⟩ := ht X.env
    exact pe_meth (pl := pl) (C := Ca) (k := kf) (f := f) (fd := fd) (ps := ps) (ue hX a) (by rw [hX.K]; exact cl) (by rw [hX.K]; exact hm) (by rw [hX.P, hX.w, hX.K, hX.mg, hX.base]; exact F) (hX.room.mono (Nat.le_of_ble_eq_true hk)) (by rw [hX.K]; exact hb) .nil pass0 (ua hX _) (hst X.env) (hpl X.env) hpl'
  · refine ho I H adr σ _ s fun v I1 H1 adr1 s1 g1 v1 => ?_
    have v1' := v1
    obtain ⟨p, dx, gs, rfl, h2, h3⟩ := v1
    refine ⟨p, dx, gs, rfl, s1.ex _ _ h2, fpNone h3 hl, ha I1 H1 adr1 σ _ s1 fun vs I2 H2 adr2 s2 g2 v2 => ?_⟩
    obtain ⟨adr0, sto0, vs0, back⟩ := call_mix s2 mx
    have v3 : Vs I2 adr2 (.obj Ca fs :: os) (.ref p :: vs) := .cons (v1'.mono g2) v2
    rw [hos] at v3
    show spR R (.ref p :: (vs ++ [])) H2 Q E0
    rw [List.append_nil]
    refine ⟨I2, adr0, os0, M0, o0, M0', hR, s2.ex, sto0, vs0 _ _ v3, fun z I3 H3 adr0' ex3 sto3 g3 v4 => ?_⟩
    obtain ⟨adr3, s3, g4, dr⟩ := back I3 H3 adr0' ex3 sto3 g3
    exact q z I3 H3 adr3 s3 ((g1.trans g2).trans g4) (dr _ _ v4)
/-- a walk over a written tuple of any things -/
theorem EI.disp {kk : Nat} (h : EA C es E M os M1) (hz : os.length < 100000) : EI C tg (.Tuple es kk pos) E M os.length (fun i => os.getD i .no) M1 tt := fun I H adr σ R s q =>
  ⟨iTup C.g.K (tTup (UA C es)), fun X hX => by
    have := pi_tup (tg := tg) (pe_tup (x1 := kk) (pos := pos) (ua hX es))
    rw [hX.K] at this
    exact this, h I H adr σ _ s fun vs I1 H1 adr1 s1 g1 v1 => by
      refine ⟨by rw [← v1.length]; exact Nat.le_trans (Nat.le_of_lt hz) (by decide), fun p hp => ?_⟩
      obtain ⟨s2, g2⟩ := s1.ext (o := .tup vs) hp NT.tup
      refine ⟨p, rfl, ⟨vs, sqt_uniq upd_same⟩, q _ _ _ adr1 s2 (g1.trans g2) fun I3 H3 adr3 σ3 E3 M3 s3 g3 _ => ?_⟩
      have h3 : H3 p = some (.tup vs) := s3.ex _ _ (g3.ex _ _ upd_same)
      have v3 := (v1.mono g2).mono g3
      refine ⟨⟨vs, sqt_uniq h3, by rw [v1.length]; exact Nat.le_refl _⟩, fun i hi => ?_⟩
      have hget : os[i]? = some (os.getD i .no) := by
        rw [List.getD_eq_getElem?_getD, List.getElem?_eq_getElem hi]
        rfl
      obtain ⟨x, hx, hrx⟩ := v3.get hget
      refine ⟨⟨vs, x, sqt_uniq h3, hx⟩, fun y H4 hy => ?_⟩
      obtain ⟨rfl, hy⟩ := hy
      have e : y = x := Option.some.inj ((hy vs (sqt_uniq h3)).symm.trans hx)
      subst e
      exact ⟨I3, s3, Grow.refl, hrx⟩⟩
end
end Ab
/-! Ab: making objects; defs with a known code object, methods. -/
namespace Ab
open PySem PySem.Spec PyProof.Rows L2 NdefX LamX
variable [TabCtx]
/-! ### a def's body from its text -/
def mkCd (g : Pg) (N : List Str) (st : Stmt) (k : Nat) (cd : Option (Value × Str)) : Cc := { mkC g N st k with cd := cd }
/-- a body that hands back o; J: cells that are dropped -/
def Ends2 (C : Cc) (body : List Stmt) (E : List O) (M : Mem) (o : O) (M' : Mem) : Prop := M.length ≤ M'.length ∧ LowO M'.length o ∧ LowM M'.length M' ∧ ((∃ J, SB C body E M (.rt o (M' ++ J))) ∨ (o = .dat .non ∧ ∃ E' J, SB C body E M (.nx E' (M' ++ J))))
theorem start_slots {N ps : List Str} {os : List O} {vs : List V} {I H : Hp} {adr : List Addr} (v : Vs I adr os vs) : (pad N os).length = (L2.start N vs).length ∧ ∀ (i : Nat) (p : O) (ov : Option V), (pad N os)[i]? = some p → (L2.start N vs)[i]? = some ov → Vso I adr p ov := by
  refine ⟨?_, fun i p ov h1 h2 => ?_⟩
  · unfold pad L2.start
    rw [List.length_append, List.length_append, List.length_map, List.length_replicate, List.length_replicate, v.length]
  · unfold pad at h1
    unfold L2.start at h2
    by_cases hi : i < os.length
    · rw [List.getElem?_append_left hi] at h1
      obtain ⟨w, e1, e2⟩ := v.get h1
      rw [List.getElem?_append_left (by rw [List.length_map, ← v.length]; exact hi), List.getElem?_map, e1] at h2
      cases h2
      exact e2
    · rw [List.getElem?_append_right (Nat.le_of_not_lt hi)] at h1
      have hp : p = .no := List.eq_of_mem_replicate (List.mem_of_getElem? h1)
      subst hp
      cases ov with
      | none => rfl
      | some w => exact True.intro
theorem drop_tail {I H I' H' : Hp} {adr adr' : List Addr} {σ' : L2.St} {E' : List O} {M M' J : Mem} (sto : Sto I H adr M) (s' : Stt I' H' adr' σ' E' (M' ++ J)) (g' : Grow I H adr I' H' adr') (hlen : M.length ≤ M'.length) (lm : LowM M'.length M') :
    ∃ ad2, Ex I' H' ∧ Sto I' H' ad2 M' ∧ Grow I H adr I' H' ad2 ∧ ∀ o v, LowO M'.length o → Vo I' adr' o v → Vo I' ad2 o v := by
  obtain ⟨nw, rfl, fr⟩ := g'.new
  have l1 := s'.sto.len
  have l2 := sto.len
  rw [List.length_append, List.length_append] at l1
  have ht : (adr ++ nw).take M'.length = adr ++ nw.take (M'.length - adr.length) := by
    rw [List.take_append, List.take_of_length_le (by omega)]
  have sub : ∀ (k : Nat) (a : Addr), ((adr ++ nw).take M'.length)[k]? = some a → (adr ++ nw)[k]? = some a := fun k a h => by
    rw [List.getElem?_take] at h
    split at h
    · exact h
    · cases h
  refine ⟨(adr ++ nw).take M'.length, s'.ex, ⟨?_, s'.sto.nd.sublist (List.take_sublist _ _), fun k a ps h1 h2 => ?_, fun k a h1 => s'.sto.dom k a (sub k a h1), s'.sto.amb⟩, ⟨g'.ex, ⟨_, ht, fun p hp => fr p (List.take_subset _ _ hp)⟩, g'.keep, g'.dom, g'.out, g'.code⟩, fun o v lo v' => vo_take lo v'⟩
  · rw [List.length_take, List.length_append]
    omega
  · have hk : k < M'.length := (List.getElem?_eq_some_iff.mp h2).1
    obtain ⟨c1, xs, c2, c3⟩ := s'.sto.cell k a ps (sub k a h1) (by rw [List.getElem?_append_left hk]; exact h2)
    exact ⟨c1, xs, c2, vs_take (lm k ps h2) c3⟩
/-- THE RULE: a def's text at f -/
theorem fnok {g : Pg} {x qual : Str} {st : Stmt} {N ps : List Str} {k : Nat} {R : Rel} {f : Addr} {oc : Value} {od an : Option Addr} {dV kV doc pm cdv ct : Value} {osl : Array (Option Value)} {cd : Option (Value × Str)}
    (lk : g.K.lookup f = some ⟨oc, od, .func (PySem.W.fnOf x qual (defArgs st) (defBody st) (defScope st) dV kV doc pm an cdv ct), osl⟩) (hcd : PySem.W.codeIn g.K cdv qual = true) (S : FnScope N ps (defScope st)) (hc : ∀ c q, cd = some (c, q) → cdv = c ∧ qual ++ ".<locals>." = q)
    (hl : ∀ os M o M', R os M o M' → os.length = ps.length) (body : ∀ os M o M', R os M o M' → Ends2 (mkCd g N st k cd) (defBody st) (pad N os) M o M') :
    FnOk g.P g.w g.K g.mg g.base CX0 (k + 1) f (PySem.W.fnOf x qual (defArgs st) (defBody st) (defScope st) dV kV doc pm an cdv ct) ps (spR R) := by
  refine fn_of lk hcd S (fun vs H Q E h => ?_) fun A outer s H vs Q E hr h => ?_
  · obtain ⟨I, adr, os, M, o, M', r, _, _, v, _⟩ := h
    rw [← v.length]
    exact hl _ _ _ _ r
  · obtain ⟨I, adr, os, M, o, M', r, ex, sto, v, q⟩ := h
    obtain ⟨hlen, lo, lm, hB⟩ := body os M o M' r
    have key : ∃ t, PSs (cxOf CX0 g.P g.w g.K g.mg g.base N qual (defScope st) f cdv A outer s H E).nox (defBody st) t ∧ t { nx := fun _ H' => Q .non H', rt := Q } (L2.start N vs) H := by
      refine ⟨UB (mkCd g N st k cd) (defBody st), ub ⟨rfl, rfl, rfl, rfl, rfl, rfl, rfl, rfl, hr, PassesOwn.never, takes0, fun _ _ => rfl, fun c q z => ?_, ⟨_, _, rfl, S.gen, S.co, rfl, rfl⟩⟩ _, ?_⟩
      · obtain ⟨e1, e2⟩ := hc c q z
        exact ⟨e1, e2⟩
      have sl := start_slots (N := N) (ps := ps) (I := I) (H := H) v
      rcases hB with ⟨J, hB⟩ | ⟨rfl, E', J, hB⟩
      · refine hB I H adr (L2.start N vs) _ ⟨ex, sto, sl.1, sl.2⟩ fun w I' H' adr' s' g' v' => ?_
        obtain ⟨ad2, e2, t2, g2, vo⟩ := drop_tail sto s' g' hlen lm
        exact q w I' H' ad2 e2 t2 g2 (vo _ _ lo v')
      · refine hB I H adr (L2.start N vs) _ ⟨ex, sto, sl.1, sl.2⟩ fun I' H' adr' σ' s' g' => ?_
        obtain ⟨ad2, e2, t2, g2, vo⟩ := drop_tail sto s' g' hlen lm
        exact q .non I' H' ad2 e2 t2 g2 .non
    obtain ⟨t, h1, h2⟩ := key
    exact ⟨t, h1.nox, h2⟩
/-- a def of the module whose code object is at c, the table of its inner code objects at P -/
structure TxtC (g : Pg) (x : Str) (st : Stmt) (c P : Addr) : Prop where
  ex : ∃ (f : Addr) (oc : Value) (od an : Option Addr) (kV doc pm ct : Value) (osl : Array (Option Value)), g.K.lookup f = some ⟨oc, od, .func (PySem.W.fnOf x x (defArgs st) (defBody st) (defScope st) .none kV doc pm an (.ref c) ct), osl⟩ ∧ PySem.W.codeIn g.K (.ref c) x = true ∧ g.mg x = some (.ref f) ∧ PySem.W.keepIn g.K (.ref f) = true
  tb : TabB g.base g.mg c P
theorem FN.mkC {g : Pg} {x : Str} {st : Stmt} {c P : Addr} {N ps : List Str} {k : Nat} {R : Rel} (T : TxtC g x st c P) (S : FnScope N ps (defScope st))
    (hb : ∀ (kV doc pm : Value) (an : Option Addr) (cdv ct : Value) (us : List Value), us.length = ps.length → bindArgs (PySem.W.fnOf x x (defArgs st) (defBody st) (defScope st) .none kV doc pm an cdv ct) ⟨us, []⟩ = pure (ps.zip us))
    (hl : ∀ os M o M', R os M o M' → os.length = ps.length) (body : ∀ os M o M', R os M o M' → Ends2 (mkCd g N st k (some (.ref c, x ++ ".<locals>."))) (defBody st) (pad N os) M o M') : FN g x (k + 1) R := by
  obtain ⟨f, oc, od, an, kV, doc, pm, ct, osl, lk, hcd, hm, hk⟩ := T.ex
  exact ⟨f, _, ps, fnok lk hcd S (fun c q z => by cases z; exact ⟨rfl, rfl⟩) hl body, hm, hk, .all (hb kV doc pm an (.ref c) ct)⟩
/-- a method of the class -/
structure TxtM (g : Pg) (Ca : Addr) (cls m : Str) (st : Stmt) : Prop where
  ex : ∃ (f : Addr) (fd : FuncData), Fun g.K m cls st f fd ∧ Meth g.K Ca m f
theorem MT.mk {g : Pg} {Ca : Addr} {cls m : Str} {st : Stmt} {N ps : List Str} {k : Nat} {R : Rel} (T : TxtM g Ca cls m st) (S : FnScope N ps (defScope st))
    (hb : ∀ (kV doc pm : Value) (an : Option Addr) (cdv ct : Value) (us : List Value), us.length = ps.length → bindArgs (PySem.W.fnOf m cls (defArgs st) (defBody st) (defScope st) .none kV doc pm an cdv ct) ⟨us, []⟩ = pure (ps.zip us))
    (hl : ∀ os M o M', R os M o M' → os.length = ps.length) (body : ∀ os M o M', R os M o M' → Ends2 (mkCd g N st k none) (defBody st) (pad N os) M o M') : MT g Ca m (k + 1) R := by
  obtain ⟨f, fd, F, hm⟩ := T.ex
  have F0 := F
  obtain ⟨oc, od, kV, doc, pm, an, cdv, ct, osl, rfl, lk, hcd⟩ := F.ex
  exact ⟨f, _, ps, hm, fnok lk hcd S (fun c q z => by cases z) hl body, F0.binds hb⟩
theorem FN.mk2x {g : Pg} {x : Str} {st : Stmt} {N ps : List Str} {k : Nat} {R : Rel} (T : TxtF g x st) (S : FnScope N ps (defScope st))
    (hb : ∀ (kV doc pm : Value) (an : Option Addr) (cdv ct : Value) (us : List Value), us.length = ps.length → bindArgs (PySem.W.fnOf x x (defArgs st) (defBody st) (defScope st) .none kV doc pm an cdv ct) ⟨us, []⟩ = pure (ps.zip us))
    (hl : ∀ os M o M', R os M o M' → os.length = ps.length) (body : ∀ os M o M', R os M o M' → Ends2 (mkCd g N st k none) (defBody st) (pad N os) M o M') : FN g x (k + 1) R := by
  obtain ⟨f, fd, F, hm⟩ := T.fn
  have F0 := F
  obtain ⟨oc, od, kV, doc, pm, an, cdv, ct, osl, rfl, lk, hcd⟩ := F.ex
  exact ⟨f, _, ps, fnok lk hcd S (fun c q z => by cases z) hl body, hm, F0.kp, F0.binds hb⟩
/-! ### __init__ -/
abbrev RelI := List O → Mem → List (Str × Nat) → Mem → Prop
def spI (Ca : Addr) (R : RelI) : Sp := fun vs H Q _ => ∃ (Hb I : Hp) (adr : List Addr) (x dx : Addr) (ws : List V) (os : List O) (M : Mem) (fs : List (Str × Nat)) (M' : Mem), vs = .ref x :: ws ∧ Hb x = none ∧ Hb dx = none ∧ dx ≠ x ∧ H = upd (upd Hb dx (.own x)) x (.ins Ca dx []) ∧ R os M fs M' ∧ Ex I Hb ∧ Sto I Hb adr M ∧ Vs I adr os ws ∧
  ∀ I' H' adr', Ex I' H' → Sto I' H' adr' M' → Grow I Hb adr I' H' adr' → Vo I' adr' (.obj Ca fs) (.ref x) → Q .non H'
/-- the class named x keeps R -/
def MK (g : Pg) (x : Str) (Ca : Addr) (k : Nat) (R : RelI) : Prop := ∃ (f : Addr) (fd : FuncData) (ps : List Str), Mk g.K Ca f ∧ FnOk g.P g.w g.K g.mg g.base CX0 k f fd ps (spI Ca R) ∧ g.mg x = some (.ref Ca) ∧ Binds g.K fd ps []
section
variable {C : Cc} {E E1 E2 E' cs : List O} {M M1 M2 M3 M' : Mem} {o o1 o2 o3 : O} {os : List O} {e a b c tg iter body : Expr} {es : List Expr} {pos pos' p kp lpos apos : Pos} {d d1 d2 : D} {ds : List D} {i j : Int} {r : Out}
theorem EV.make {Ca : Addr} {x : Str} {kf : Nat} {R : RelI} {os0 : List O} {fs : List (Str × Nat)} {M0 M0' : Mem} {ι : List Nat} (F : MK C.g x Ca kf R) (ha : EA C (e :: es) E M os M1) (hR : R os0 M0 fs M0') (ho : os = os0.map (·.ren (rho ι M1.length))) (mx : Mix ι M1 M0 M0' M2)
    (hk : Nat.ble (kf + 1) C.k = true := by rfl) (hg : C.sc.names.lookup x = some .globalImplicit := by rfl) (hdb : (x == ("__debug__" : Str)) = false := by decide) (he : ∀ env, starEach (e :: es) env = (false, eval e env) :: starEach es env := by intro _; rfl) (hpl : ∀ env, (backTo pos (starEach es env)).any (·.1) = false := by intro _; rfl) :
    EV C (.Call (.Name x p) (e :: es) [] pos) E M (.obj Ca (fs.map fun f => (f.1, rho ι M1.length f.2))) M2 := by
  obtain ⟨f, fd, ps, hM, F, hm, hb⟩ := F
  refine EV.mk (t := tMake Ca (spI Ca R) [] E0 (UA C (e :: es))) (fun X hX => ?_) fun I H adr σ Q s q => ?_
  · exact pe_make (k := kf) (f := f) (fd := fd) (ps := ps) (by rw [hX.K]; exact hM) (by rw [hX.P, hX.w, hX.K, hX.mg, hX.base]; exact F) (hX.room.mono (Nat.le_of_ble_eq_true hk)) (by show X.env.scope.names.lookup x = _; rw [hX.sc]; exact hg) (by rw [hX.mg]; exact hm) (by rw [hX.K]; exact hb) .nil pass0 (ua hX _) hdb (he X.env) (hpl X.env)
  · refine ha I H adr σ _ s fun vs I1 H1 adr1 s1 g1 v1 => ?_
    intro x dx hx hdx hne
    subst ho
    obtain ⟨adr0, sto0, vs0, back⟩ := call_mix s1 mx
    show spI Ca R (.ref x :: (vs ++ [])) _ _ E0
    rw [List.append_nil]
    refine ⟨H1, I1, adr0, x, dx, vs, os0, M0, fs, M0', rfl, hx, hdx, hne, rfl, hR, s1.ex, sto0, vs0 _ _ v1, fun I3 H3 adr0' ex3 sto3 g3 v3 => ⟨rfl, ?_⟩⟩
    obtain ⟨adr3, s3, g4, dr⟩ := back I3 H3 adr0' ex3 sto3 g3
    exact q _ I3 H3 adr3 s3 (g1.trans g4) (dr _ _ v3)
/-- what the layer doesn't know may be written -/
theorem Stt.oth {I H : Hp} {adr : List Addr} {σ : L2.St} {x Ca dx Cb dy : Addr} {gs hs : List (Str × V)} (s : Stt I H adr σ E M) (hx : x ∉ adr) (hi : I x = none) (h0 : H x = some (.ins Ca dx gs)) : Stt I (upd H x (.ins Cb dy hs)) adr σ E M := by
  have nx : ∀ (k : Nat) (a : Addr), adr[k]? = some a → a ≠ x := fun k a h z => hx (z ▸ List.mem_of_getElem? h)
  refine ⟨s.ex.mut hi, ⟨s.sto.len, s.sto.nd, fun k a os h1 h2 => ?_, fun k a h => ?_, ⟨fun q hq => ?_, s.sto.amb.nt⟩⟩, s.len, s.slot⟩
  · obtain ⟨c1, xs, c2, c3⟩ := s.sto.cell k a os h1 h2
    exact ⟨c1, xs, by rw [upd_ne (nx k a h1)]; exact c2, c3⟩
  · obtain ⟨u, hu, n⟩ := s.sto.dom k a h
    exact ⟨u, by rw [upd_ne (nx k a h)]; exact hu, n⟩
  · obtain ⟨ps, h1, h2, h3⟩ := s.sto.amb.tabs q hq
    have ne : ∀ b u, H b = some u → (∀ A d l, u ≠ .ins A d l) → b ≠ x := fun b u h n z => by
      rw [z, h0] at h
      exact n _ _ _ (Option.some.inj h).symm
    refine ⟨ps, by rw [upd_ne (ne _ _ h1 (fun _ _ _ z => by cases z))]; exact h1, h2, fun pos cv hc => ?_⟩
    obtain ⟨c, e1, e2⟩ := h3 pos cv hc
    exact ⟨c, e1, by rw [upd_ne (ne _ _ e2 (fun _ _ _ z => by unfold LamX.CodeO at z; cases z))]; exact e2⟩
theorem Grow.oth {I H I1 H1 : Hp} {adr adr1 : List Addr} {x : Addr} {u : HO} (g : Grow I H adr I1 H1 adr1) (hx : H x = none) : Grow I H adr I1 (upd H1 x u) adr1 :=
  ⟨g.ex, g.new, fun p o h n q => by rw [upd_ne (ne_of_none h hx)]; exact g.keep p o h n q, fun p o h n => by
    obtain ⟨o', h', n'⟩ := g.dom p o h n
    exact ⟨o', by rw [upd_ne (ne_of_none h hx)]; exact h', n'⟩, g.out, fun c q h => by rw [upd_ne (ne_of_none h hx)]; exact g.code c q h⟩
/-- the fields are written one by one -/
def DoI (C : Cc) (sts : List Stmt) (Ca : Addr) (E : List O) (M : Mem) (fs : List (Str × Nat)) (M' : Mem) (fs' : List (Str × Nat)) : Prop :=
  ∀ (Hb I0 : Hp) (adr0 : List Addr) (I H : Hp) (adr : List Addr) (σ : L2.St) (D : Ends) (x dx : Addr) (gs : List (Str × V)), σ[0]? = some (some (.ref x)) → Hb x = none → I0 x = none → Stt I H adr σ E M → Grow I0 Hb adr0 I H adr → x ∉ adr → I x = none → H x = some (.ins Ca dx gs) → FPair adr fs gs →
    (∀ I' H' adr' σ' gs', Stt I' H' adr' σ' E M' → Grow I0 Hb adr0 I' H' adr' → x ∉ adr' → I' x = none → H' x = some (.ins Ca dx gs') → FPair adr' fs' gs' → D.nx σ' H') → UB C sts D σ H
theorem DoI.nil {Ca : Addr} {fs : List (Str × Nat)} : DoI C [] Ca E M fs M fs := fun Hb I0 adr0 I H adr σ D x dx gs h0 hb hi0 s g nx ix hx fp q => ⟨_, fun _ _ => pss_nil, q I H adr σ gs s g nx ix hx fp⟩
theorem DoI.cons {Ca : Addr} {fs fs' : List (Str × Nat)} {f sf : Str} {k : Nat} {sts : List Stmt} {q1 q2 q3 : Pos} (he : EV C e E M (.adr k) M1) (hr : DoI C sts Ca E M1 (fs ++ [(f, k)]) M' fs') (cl : Cls C.g.K Ca) (na : NoAttr C.g.K Ca f) (hz : fs.length < 900) (hf : fs.lookup f = none := by rfl)
    (hN : C.N[0]? = some sf := by rfl) (hv : Vis C.sc sf := by first | exact Or.inl rfl | exact Or.inr (Or.inl rfl)) (hd : (sf == ("__debug__" : Str)) = false := by decide) (hcd : (sf == ("__classdict__" : Str)) = false := by decide)
    (hs : ∀ env, swapsWith e (some (.Attribute (.Name sf q1) f q2)) q3.line env = pure false := by intro _; rfl) : DoI C (.Assign [.Attribute (.Name sf q1) f q2] e q3 :: sts) Ca E M fs M' fs' := fun Hb I0 adr0 I H adr σ D x dx gs h0 hb hi0 s g nx ix hx fp q => by
  refine ⟨tSeq (sFld C.g.K (tVar 0) (UE C e) f) (UB C sts), fun X hX => pss_cons ?_ (ub hX sts), ?_⟩
  · have := ps_fld (pos := q3) (pos' := q2) (f := f) (pe_var (pos := q1) (i := 0) (x := sf) (by rw [hX.N]; exact hN) (by rw [hX.sc]; exact hv) hd hcd) (ue hX e) (hs X.env)
    rw [hX.K] at this
    exact this
  · refine he I H adr σ _ s fun v I1 H1 adr1 s1 g1 v1 => ?_
    obtain ⟨ak, ek, rfl⟩ := v1
    have nx1 : x ∉ adr1 := fun z => by
      obtain ⟨nw, rfl, fr⟩ := g1.new
      rcases List.mem_append.mp z with z | z
      · exact nx z
      · exact fr x z _ hx (fun ps z => by cases z)
    have ix1 : I1 x = none := g1.out x _ hx (fun ps z => by cases z) ix nx
    have hx1 : H1 x = some (.ins Ca dx gs) := g1.keep x _ hx (fun ps z => by cases z) nx
    have fp1 : FPair adr1 fs gs := prMap fp fun f' g' z => ⟨z.1, let ⟨a, e1, e2⟩ := z.2; ⟨a, g1.get e1, e2⟩⟩
    refine ⟨.ref x, h0, x, Ca, dx, gs, rfl, hx1, cl, na, by rw [← fpLen fp]; omega, ?_⟩
    exact hr Hb I0 adr0 I1 (upd H1 x (.ins Ca dx (putF f (.ref ak) gs))) adr1 σ D x dx _ h0 hb hi0 (s1.oth nx1 ix1 hx1) ((g.trans g1).oth hb) nx1 ix1 upd_same (fpPut ek fp1 hf) q
/-- a class by its __init__ -/
theorem MK.mk {g : Pg} {Ca : Addr} {cls qn : Str} {st : Stmt} {N ps : List Str} {k : Nat} {R : RelI} {f : Addr} {fd : FuncData} (F : Fun g.K "__init__" qn st f fd) (hM : Mk g.K Ca f) (hm : g.mg cls = some (.ref Ca)) (S : FnScope N ps (defScope st))
    (hb : ∀ (kV doc pm : Value) (an : Option Addr) (cdv ct : Value) (us : List Value), us.length = ps.length → bindArgs (PySem.W.fnOf "__init__" qn (defArgs st) (defBody st) (defScope st) .none kV doc pm an cdv ct) ⟨us, []⟩ = pure (ps.zip us))
    (hN : 0 < N.length) (hl : ∀ os M fs M', R os M fs M' → os.length + 1 = ps.length) (body : ∀ os M fs M', R os M fs M' → DoI (mkCd g N st k none) (defBody st) Ca (pad N (.no :: os)) M [] M' fs) : MK g cls Ca (k + 1) R := by
  have F0 := F
  obtain ⟨oc, od, kV, doc, pm, an, cdv, ct, osl, rfl, lk, hcd⟩ := F.ex
  refine ⟨f, _, ps, hM, fn_of lk hcd S (fun vs H Q E h => ?_) fun A outer s H vs Q E hr h => ?_, hm, F0.binds hb⟩
  · obtain ⟨Hb, I, adr, x, dx, ws, os, M, fs, M', rfl, _, _, _, _, r, _, _, v, _⟩ := h
    rw [List.length_cons, ← v.length]
    exact hl _ _ _ _ r
  · obtain ⟨Hb, I, adr, x, dx, ws, os, M, fs, M', rfl, hbx, hbd, hne, rfl, r, ex, sto, v, q⟩ := h
    have key : ∃ t, PSs (cxOf CX0 g.P g.w g.K g.mg g.base N qn (defScope st) f cdv A outer s (upd (upd Hb dx (.own x)) x (.ins Ca dx [])) E).nox (defBody st) t ∧ t { nx := fun _ H' => Q .non H', rt := Q } (L2.start N (.ref x :: ws)) (upd (upd Hb dx (.own x)) x (.ins Ca dx [])) := by
      refine ⟨UB (mkCd g N st k none) (defBody st), ub ⟨rfl, rfl, rfl, rfl, rfl, rfl, rfl, rfl, hr, PassesOwn.never, takes0, fun _ _ => rfl, fun c q z => (by cases z), ⟨_, _, rfl, S.gen, S.co, rfl, rfl⟩⟩ _, ?_⟩
      have ix : I x = none := ex.non hbx
      have idx : I dx = none := ex.non hbd
      have H1x : (upd Hb dx (.own x)) x = none := by rw [upd_ne hne.symm]; exact hbx
      have v' : Vs I adr (.no :: os) (.ref x :: ws) := .cons True.intro v
      have sl := start_slots (N := N) (ps := ps) (I := I) (H := Hb) v'
      have nxa : x ∉ adr := fun z => by
        obtain ⟨kk, hk⟩ := List.getElem?_of_mem z
        obtain ⟨u, hu, _⟩ := sto.dom kk x hk
        rw [hbx] at hu
        cases hu
      have eq2 : ∀ b u, Hb b = some u → (upd (upd Hb dx (.own x)) x (.ins Ca dx [])) b = some u := fun b u e => by
        rw [upd_ne (ne_of_none e hbx), upd_ne (ne_of_none e hbd)]
        exact e
      have sto2 : Sto I (upd (upd Hb dx (.own x)) x (.ins Ca dx [])) adr M := ⟨sto.len, sto.nd, fun kk a os h1 h2 => by
          obtain ⟨c1, xs, c2, c3⟩ := sto.cell kk a os h1 h2
          exact ⟨c1, xs, eq2 _ _ c2, c3⟩, fun kk a h => by
          obtain ⟨u, hu, n⟩ := sto.dom kk a h
          exact ⟨u, eq2 _ _ hu, n⟩, ⟨(sto.amb.tabs.ext fun b u e => eq2 b u e), sto.amb.nt⟩⟩
      have ex2 : Ex I (upd (upd Hb dx (.own x)) x (.ins Ca dx [])) := fun b u e => eq2 b u (ex b u e)
      have g0 : Grow I Hb adr I (upd (upd Hb dx (.own x)) x (.ins Ca dx [])) adr := ⟨Ex.refl _, ⟨[], by simp, by simp⟩, fun p u h _ _ => eq2 p u h, fun p u h n => ⟨u, eq2 p u h, n⟩, fun _ _ _ _ h _ => h, fun c q h => eq2 _ _ h⟩
      refine body os M fs M' r Hb I adr I _ adr (L2.start N (.ref x :: ws)) _ x dx [] rfl hbx ix ⟨ex2, sto2, sl.1, sl.2⟩ g0 nxa ix upd_same .nil fun I' H' adr' σ' gs' s' g' nx' ix' hx' fp' => ?_
      have neq : ∀ (kk : Nat) (a : Addr), adr'[kk]? = some a → a ≠ x := fun kk a h z => nx' (z ▸ List.mem_of_getElem? h)
      have e3 : Ex (upd I' x (.ins Ca dx gs')) H' := fun b u h => by
        by_cases z : b = x
        · subst z
          rw [upd_same] at h
          cases h
          exact hx'
        · rw [upd_ne z] at h
          exact s'.ex b u h
      have i3 : Ex I' (upd I' x (.ins Ca dx gs')) := Ex.new ix'
      refine q (upd I' x (.ins Ca dx gs')) H' adr' e3 ⟨s'.sto.len, s'.sto.nd, fun kk a os h1 h2 => ?_, s'.sto.dom, ⟨s'.sto.amb.tabs, fun b u h => ?_⟩⟩ ⟨g'.ex.trans i3, g'.new, g'.keep, g'.dom, fun p u h n h1 h2 => ?_, g'.code⟩ ⟨x, dx, gs', rfl, upd_same, fp'⟩
      · obtain ⟨c1, xs, c2, c3⟩ := s'.sto.cell kk a os h1 h2
        exact ⟨by rw [upd_ne (neq kk a h1)]; exact c1, xs, c2, c3.ext i3⟩
      · by_cases z : b = x
        · subst z
          rw [upd_same] at h
          cases h
          exact fun ps z => by cases z
        · rw [upd_ne z] at h
          exact s'.sto.amb.nt b u h
      · rw [upd_ne (ne_of_none h hbx)]
        exact g'.out p u h n h1 h2
    obtain ⟨t, h1, h2⟩ := key
    exact ⟨t, h1.nox, h2⟩
end
end Ab
/-! Ab: any of a tuple of ints; a cell within a cell is frozen. -/
namespace Ab
open PySem PySem.Spec PyProof.Rows L2
variable [TabCtx]
section
variable {C : Cc} {E E1 E2 E' : List O} {M M1 M2 M3 M' : Mem} {o : O} {os ps : List O} {e a b c : Expr} {pos pos' p : Pos} {d d1 d2 : D} {ds : List D} {i j : Int} {r : Out} {x : Str}
theorem any_range' {ns : List Int} : (List.range ns.length).any (fun i => ns.getD i 0 != 0) = ns.any (· != 0) := by
  rw [Bool.eq_iff_iff]
  simp only [List.any_eq_true, List.mem_range]
  constructor
  · rintro ⟨i, hi, h⟩
    refine ⟨ns[i], List.getElem_mem hi, ?_⟩
    rw [List.getD_eq_getElem?_getD, List.getElem?_eq_getElem hi] at h
    exact h
  · rintro ⟨y, hy, h⟩
    obtain ⟨i, hi, e⟩ := List.getElem_of_mem hy
    refine ⟨i, hi, ?_⟩
    rw [List.getD_eq_getElem?_getD, List.getElem?_eq_getElem hi, e]
    exact h
theorem cr_anyT {X : Cx} (hc : X.calm = true) : CallR X (.builtin "any") (fun vs H Q => ∃ (a : Addr) (ns : List Int), vs = [V.ref a] ∧ SqT X.K H a (ns.map V.int) ∧ Q (.bl (ns.any (· != 0))) H) := by
  intro pins s σ H vs us Q I r h
  obtain ⟨a, ns, rfl, hs, q⟩ := h
  obtain ⟨its, rv, hp, _⟩ := I.tuple hs
  rw [Vals.ref1 r]
  have hi : IntsAre its ns := Vals.ints rv
  have hp' : s.heap.IsTuple a its.toArray := hp
  have hlt : a < s.heap.objs.size := by obtain ⟨_, e, _⟩ := hp'; exact Heap.lt_size e
  refine call_any_walk (wpAny_pyIter_tuple hp' ⟨_, _, _, _, _, _, fun i => ns.getD i 0 != 0, rfl, Walks.tuple (A := X.A.in1) (I.ok.hd hc) _ a (Nat.ne_of_lt hlt) its.toArray, ⟨⟨_, Heap.get?_push_size _ rfl, rfl, rfl⟩, hp'.push _⟩, fun i v s Q E hv hq => ?_, fun h' tk hk => ?_⟩)
  · have hv' : its[i]? = some v := by simpa using hv
    have hl : i < ns.length := by
      rw [← hi.length]
      exact (List.getElem?_eq_some_iff.mp hv').1
    obtain ⟨t, ht⟩ := hi.get i ns[i] (List.getElem?_eq_getElem hl)
    rw [ht] at hv'
    cases hv'
    have e : ns.getD i 0 = ns[i] := by rw [List.getD_eq_getElem?_getD, List.getElem?_eq_getElem hl]; rfl
    try dsimp only at hq
    rw [e] at hq
    exact PyProof.Rows.truthy_int hq
  · refine ⟨.bl _, H, I.kept fun b o eo => hk b o (fun hmem => ?_) (Heap.get?_push_of_some _ eo), ?_, q⟩
    · rcases List.mem_cons.mp hmem with e1 | hmem
      · exact absurd (e1 ▸ Heap.lt_size eo) (Nat.lt_irrefl _)
      · cases hmem
    · show Value.bool _ = Value.bool _
      rw [← any_range', List.size_toArray, hi.length]
theorem KS.anyT {ns : List Int} : KS C (.builtin "any") [.dat (.tup (ns.map .int))] M (.dat (.bl (ns.any (· != 0)))) M := ⟨_, fun X hX => by
  have := cr_anyT (X := X) hX.calm
  rw [hX.K] at this
  exact this, fun I H adr σ E vs Q s hv q => by
  obtain ⟨v, ev, hz⟩ := vsOne hv
  subst ev
  cases (show Rep I (.tup (ns.map .int)) v from hz) with
  | @tup p xs _ hp hr =>
    have e := reps_int hr
    subst e
    exact ⟨p, ns, rfl, .inl (.inl (s.ex _ _ hp)), q _ I H adr s Grow.refl (.bl _)⟩⟩
theorem EV.anyT {ns : List Int} (h : EV C a E M (.dat (.tup (ns.map .int))) M') (hm : Bt C.g "any") (hx : x = "any" := by rfl) (hg : C.sc.names.lookup x = some .globalImplicit := by rfl) (he : ∀ env, starEach [a] env = (false, eval a env) :: starEach [] env := by intro _; rfl) : EV C (.Call (.Name x p) [a] [] pos) E M (.dat (.bl (ns.any (· != 0)))) M' := by
  subst hx; exact EV.bi KS.anyT h hm bv_any (by decide) (by decide) hg he
/-- the cell nn, an element of the cell oc, is frozen -/
theorem SB.fzC {oc nn k : Nat} {sts : List Stmt} (ho : M[oc]? = some (some ps)) (hp : ps[k]? = some (.adr nn)) (hne : oc ≠ nn) (hm : M[nn]? = some (some (ds.map .dat))) (h : SB C sts E ((M.set nn none).set oc (some (ps.set k (.dat (.lst ds))))) r) : SB C sts E M r := fun I H adr σ D s q => by
  have hk : nn < adr.length := by
    rw [s.sto.len]
    exact (List.getElem?_eq_some_iff.mp hm).1
  have hoc : oc < M.length := (List.getElem?_eq_some_iff.mp ho).1
  obtain ⟨I1, s1, g1, r1⟩ := s.frz (List.getElem?_eq_getElem hk) hm
  have hoc1 : oc < adr.length := by rw [s.sto.len]; exact hoc
  obtain ⟨c1, xs, c2, c3⟩ := s1.sto.cell oc adr[oc] ps (List.getElem?_eq_getElem hoc1) (by rw [List.getElem?_set_ne (fun z => hne z.symm)]; exact ho)
  obtain ⟨v, hv, hvo⟩ := c3.get hp
  obtain ⟨a', h1, h2⟩ := hvo
  rw [List.getElem?_eq_getElem hk] at h1
  cases h1
  subst h2
  have e : xs.set k (.ref adr[nn]) = xs := by
    obtain ⟨hl, he⟩ := List.getElem?_eq_some_iff.mp hv
    rw [← he]
    exact List.set_getElem_self hl
  have c4 : Vs I1 adr (ps.set k (.dat (.lst ds))) xs := by
    have := c3.set (o := .dat (.lst ds)) (v := .ref adr[nn]) r1 k
    rw [e] at this
    exact this
  have s2 : Stt I1 H adr σ E ((M.set nn none).set oc (some (ps.set k (.dat (.lst ds))))) := by
    refine ⟨s1.ex, ⟨by rw [List.length_set]; exact s1.sto.len, s1.sto.nd, fun j b qs h1 h2 => ?_, s1.sto.dom, s1.sto.amb⟩, s1.len, s1.slot⟩
    by_cases hj : j = oc
    · subst hj
      rw [List.getElem?_set_self (by rw [List.length_set]; exact hoc)] at h2
      cases h2
      rw [List.getElem?_eq_getElem hoc1] at h1
      cases h1
      exact ⟨c1, xs, c2, c4⟩
    · rw [List.getElem?_set_ne (fun z => hj z.symm)] at h2
      exact s1.sto.cell j b qs h1 h2
  exact h I1 H adr σ D s2 (q.mono g1)
end
end Ab
namespace Ab
open PySem PySem.Spec PyProof.Rows L2
def top (i : Nat) : Stmt := PySem.Challenge.pw_multipliedout_k04_whole_hermite_by_minor.main.body.getD i (.Pass ⟨0, 0, 0, 0⟩)
abbrev s_is_number : Stmt := top 6
abbrev n_is_number : List Str := ["value"]
theorem c_is_number : FnScope n_is_number ["value"] (defScope s_is_number) := ⟨rfl, rfl, rfl, by decide +kernel, rfl, by decide +kernel, by decide +kernel⟩
-- 0:value
abbrev s_is_from_to : Stmt := top 7
abbrev n_is_from_to : List Str := ["value", "least", "most"]
theorem c_is_from_to : FnScope n_is_from_to ["value", "least", "most"] (defScope s_is_from_to) := ⟨rfl, rfl, rfl, by decide +kernel, rfl, by decide +kernel, by decide +kernel⟩
-- 0:value 1:least 2:most
abbrev s_is_row : Stmt := top 8
abbrev n_is_row : List Str := ["value"]
theorem c_is_row : FnScope n_is_row ["value"] (defScope s_is_row) := ⟨rfl, rfl, rfl, by decide +kernel, rfl, by decide +kernel, by decide +kernel⟩
-- 0:value
abbrev s_is_vector : Stmt := top 9
abbrev n_is_vector : List Str := ["value", "one"]
theorem c_is_vector : FnScope n_is_vector ["value"] (defScope s_is_vector) := ⟨rfl, rfl, rfl, by decide +kernel, rfl, by decide +kernel, by decide +kernel⟩
-- 0:value 1:one
abbrev s_is_matrix : Stmt := top 10
abbrev n_is_matrix : List Str := ["value", "row"]
theorem c_is_matrix : FnScope n_is_matrix ["value"] (defScope s_is_matrix) := ⟨rfl, rfl, rfl, by decide +kernel, rfl, by decide +kernel, by decide +kernel⟩
-- 0:value 1:row
abbrev s_checked_matrix : Stmt := top 11
abbrev n_checked_matrix : List Str := ["a", "row"]
theorem c_checked_matrix : FnScope n_checked_matrix ["a"] (defScope s_checked_matrix) := ⟨rfl, rfl, rfl, by decide +kernel, rfl, by decide +kernel, by decide +kernel⟩
-- 0:a 1:row
abbrev s_flipped : Stmt := top 13
abbrev n_flipped : List Str := ["a", "at", "row"]
theorem c_flipped : FnScope n_flipped ["a"] (defScope s_flipped) := ⟨rfl, rfl, rfl, by decide +kernel, rfl, by decide +kernel, by decide +kernel⟩
-- 0:a 1:at 2:row
abbrev s_unit : Stmt := top 14
abbrev n_unit : List Str := ["n", "row", "at"]
theorem c_unit : FnScope n_unit ["n"] (defScope s_unit) := ⟨rfl, rfl, rfl, by decide +kernel, rfl, by decide +kernel, by decide +kernel⟩
-- 0:n 1:row 2:at
abbrev s_is_zero : Stmt := top 15
abbrev n_is_zero : List Str := ["v"]
theorem c_is_zero : FnScope n_is_zero ["v"] (defScope s_is_zero) := ⟨rfl, rfl, rfl, by decide +kernel, rfl, by decide +kernel, by decide +kernel⟩
-- 0:v
abbrev s_less_multiple : Stmt := top 16
abbrev n_less_multiple : List Str := ["v", "k", "w", "one", "other"]
theorem c_less_multiple : FnScope n_less_multiple ["v", "k", "w"] (defScope s_less_multiple) := ⟨rfl, rfl, rfl, by decide +kernel, rfl, by decide +kernel, by decide +kernel⟩
-- 0:v 1:k 2:w 3:one 4:other
abbrev s_lead : Stmt := top 17
abbrev n_lead : List Str := ["v", "at", "one"]
theorem c_lead : FnScope n_lead ["v"] (defScope s_lead) := ⟨rfl, rfl, rfl, by decide +kernel, rfl, by decide +kernel, by decide +kernel⟩
-- 0:v 1:at 2:one
abbrev s_is_echelon : Stmt := top 18
abbrev n_is_echelon : List Str := ["a", "last", "row", "place"]
theorem c_is_echelon : FnScope n_is_echelon ["a"] (defScope s_is_echelon) := ⟨rfl, rfl, rfl, by decide +kernel, rfl, by decide +kernel, by decide +kernel⟩
-- 0:a 1:last 2:row 3:place
abbrev s_clear_column : Stmt := top 21
abbrev n_clear_column : List Str := ["work", "top", "column", "below", "best", "at"]
theorem c_clear_column : FnScope n_clear_column ["work", "top", "column"] (defScope s_clear_column) := ⟨rfl, rfl, rfl, by decide +kernel, rfl, by decide +kernel, by decide +kernel⟩
-- 0:work 1:top 2:column 3:below 4:best 5:at
abbrev s_hermite_ways : Stmt := top 22
abbrev n_hermite_ways : List Str := ["a", "work", "top", "column", "pivot", "at"]
theorem c_hermite_ways : FnScope n_hermite_ways ["a"] (defScope s_hermite_ways) := ⟨rfl, rfl, rfl, by decide +kernel, rfl, by decide +kernel, by decide +kernel⟩
-- 0:a 1:work 2:top 3:column 4:pivot 5:at
abbrev s_form_of : Stmt := top 23
abbrev n_form_of : List Str := ["a"]
theorem c_form_of : FnScope n_form_of ["a"] (defScope s_form_of) := ⟨rfl, rfl, rfl, by decide +kernel, rfl, by decide +kernel, by decide +kernel⟩
-- 0:a
abbrev s_basis_of : Stmt := top 24
abbrev n_basis_of : List Str := ["a", "rows", "found", "row"]
theorem c_basis_of : FnScope n_basis_of ["a"] (defScope s_basis_of) := ⟨rfl, rfl, rfl, by decide +kernel, rfl, by decide +kernel, by decide +kernel⟩
-- 0:a 1:rows 2:found 3:row
abbrev s_rank_of : Stmt := top 25
abbrev n_rank_of : List Str := ["a", "row"]
theorem c_rank_of : FnScope n_rank_of ["a"] (defScope s_rank_of) := ⟨rfl, rfl, rfl, by decide +kernel, rfl, by decide +kernel, by decide +kernel⟩
-- 0:a 1:row
abbrev s_pivots_of : Stmt := top 26
abbrev n_pivots_of : List Str := ["h", "row"]
theorem c_pivots_of : FnScope n_pivots_of ["h"] (defScope s_pivots_of) := ⟨rfl, rfl, rfl, by decide +kernel, rfl, by decide +kernel, by decide +kernel⟩
-- 0:h 1:row
abbrev s_in_form : Stmt := top 27
abbrev n_in_form : List Str := ["a", "number", "row", "place", "above"]
theorem c_in_form : FnScope n_in_form ["a"] (defScope s_in_form) := ⟨rfl, rfl, rfl, by decide +kernel, rfl, by decide +kernel, by decide +kernel⟩
-- 0:a 1:number 2:row 3:place 4:above
abbrev s_hermite : Stmt := top 28
abbrev n_hermite : List Str := ["a"]
theorem c_hermite : FnScope n_hermite ["a"] (defScope s_hermite) := ⟨rfl, rfl, rfl, by decide +kernel, rfl, by decide +kernel, by decide +kernel⟩
-- 0:a
abbrev s_is_hermite : Stmt := top 29
abbrev n_is_hermite : List Str := ["a"]
theorem c_is_hermite : FnScope n_is_hermite ["a"] (defScope s_is_hermite) := ⟨rfl, rfl, rfl, by decide +kernel, rfl, by decide +kernel, by decide +kernel⟩
-- 0:a
abbrev s_rank : Stmt := top 30
abbrev n_rank : List Str := ["a"]
theorem c_rank : FnScope n_rank ["a"] (defScope s_rank) := ⟨rfl, rfl, rfl, by decide +kernel, rfl, by decide +kernel, by decide +kernel⟩
-- 0:a
abbrev s_basis : Stmt := top 31
abbrev n_basis : List Str := ["a"]
theorem c_basis : FnScope n_basis ["a"] (defScope s_basis) := ⟨rfl, rfl, rfl, by decide +kernel, rfl, by decide +kernel, by decide +kernel⟩
-- 0:a
abbrev s_pivots : Stmt := top 32
abbrev n_pivots : List Str := ["a"]
theorem c_pivots : FnScope n_pivots ["a"] (defScope s_pivots) := ⟨rfl, rfl, rfl, by decide +kernel, rfl, by decide +kernel, by decide +kernel⟩
-- 0:a
abbrev s_law_draws : Stmt := top 34
abbrev n_law_draws : List Str := ["script", "many", "told", "cell", "number", "k", "state"]
theorem c_law_draws : FnScope n_law_draws ["script", "many"] (defScope s_law_draws) := ⟨rfl, rfl, rfl, by decide +kernel, rfl, by decide +kernel, by decide +kernel⟩
-- 0:script 1:many 2:told 3:cell 4:number 5:k 6:state
abbrev s_law_take : Stmt := top 35
abbrev n_law_take : List Str := ["row", "bound"]
theorem c_law_take : FnScope n_law_take ["row", "bound"] (defScope s_law_take) := ⟨rfl, rfl, rfl, by decide +kernel, rfl, by decide +kernel, by decide +kernel⟩
-- 0:row 1:bound
abbrev s_law_like : Stmt := top 36
abbrev n_law_like : List Str := ["told", "due", "k"]
theorem c_law_like : FnScope n_law_like ["told", "due"] (defScope s_law_like) := ⟨rfl, rfl, rfl, by decide +kernel, rfl, by decide +kernel, by decide +kernel⟩
-- 0:told 1:due 2:k
abbrev s_law_rows : Stmt := top 37
abbrev n_law_rows : List Str := ["a", "line"]
theorem c_law_rows : FnScope n_law_rows ["a"] (defScope s_law_rows) := ⟨rfl, rfl, rfl, by decide +kernel, rfl, by decide +kernel, by decide +kernel⟩
-- 0:a 1:line
abbrev s_law_most : Stmt := top 38
abbrev n_law_most : List Str := ["a", "most", "line", "x"]
theorem c_law_most : FnScope n_law_most ["a"] (defScope s_law_most) := ⟨rfl, rfl, rfl, by decide +kernel, rfl, by decide +kernel, by decide +kernel⟩
-- 0:a 1:most 2:line 3:x
abbrev s_law_deed : Stmt := top 39
abbrev n_law_deed : List Str := ["row", "n", "i", "j"]
theorem c_law_deed : FnScope n_law_deed ["row", "n"] (defScope s_law_deed) := ⟨rfl, rfl, rfl, by decide +kernel, rfl, by decide +kernel, by decide +kernel⟩
-- 0:row 1:n 2:i 3:j
abbrev s_law_lead : Stmt := top 40
abbrev n_law_lead : List Str := ["a", "deed", "told", "i", "x", "c"]
theorem c_law_lead : FnScope n_law_lead ["a", "deed"] (defScope s_law_lead) := ⟨rfl, rfl, rfl, by decide +kernel, rfl, by decide +kernel, by decide +kernel⟩
-- 0:a 1:deed 2:told 3:i 4:x 5:c
abbrev s_law_form : Stmt := top 41
abbrev n_law_form : List Str := ["row", "n", "m", "full", "columns", "j", "worths", "told", "i", "line", "k"]
theorem c_law_form : FnScope n_law_form ["row", "n", "m", "full"] (defScope s_law_form) := ⟨rfl, rfl, rfl, by decide +kernel, rfl, by decide +kernel, by decide +kernel⟩
-- 0:row 1:n 2:m 3:full 4:columns 5:j 6:worths 7:told 8:i 9:line 10:k
abbrev s_law_det : Stmt := top 42
abbrev n_law_det : List Str := ["lines", "n", "total", "j", "part", "line"]
theorem c_law_det : FnScope n_law_det ["lines"] (defScope s_law_det) := ⟨rfl, rfl, rfl, by decide +kernel, rfl, by decide +kernel, by decide +kernel⟩
-- 0:lines 1:n 2:total 3:j 4:part 5:line
abbrev s_law_choices : Stmt := top 43
abbrev n_law_choices : List Str := ["n", "r", "told", "k", "longer", "one", "first", "i"]
theorem c_law_choices : FnScope n_law_choices ["n", "r"] (defScope s_law_choices) := ⟨rfl, rfl, rfl, by decide +kernel, rfl, by decide +kernel, by decide +kernel⟩
-- 0:n 1:r 2:told 3:k 4:longer 5:one 6:first 7:i
abbrev s_law_gcd : Stmt := top 44
abbrev n_law_gcd : List Str := ["x", "y", "k", "rest"]
theorem c_law_gcd : FnScope n_law_gcd ["x", "y"] (defScope s_law_gcd) := ⟨rfl, rfl, rfl, by decide +kernel, rfl, by decide +kernel, by decide +kernel⟩
-- 0:x 1:y 2:k 3:rest
abbrev s_law_divisor : Stmt := top 45
abbrev n_law_divisor : List Str := ["a", "r", "told", "columns", "some", "places", "lines", "i", "j"]
theorem c_law_divisor : FnScope n_law_divisor ["a", "r"] (defScope s_law_divisor) := ⟨rfl, rfl, rfl, by decide +kernel, rfl, by decide +kernel, by decide +kernel⟩
-- 0:a 1:r 2:told 3:columns 4:some 5:places 6:lines 7:i 8:j
abbrev s_law_heads : Stmt := top 46
abbrev n_law_heads : List Str := ["h", "told", "line", "live", "j"]
theorem c_law_heads : FnScope n_law_heads ["h"] (defScope s_law_heads) := ⟨rfl, rfl, rfl, by decide +kernel, rfl, by decide +kernel, by decide +kernel⟩
-- 0:h 1:told 2:line 3:live 4:j
abbrev s_law_looks : Stmt := top 47
abbrev n_law_looks : List Str := ["h", "heads", "i", "k"]
theorem c_law_looks : FnScope n_law_looks ["h"] (defScope s_law_looks) := ⟨rfl, rfl, rfl, by decide +kernel, rfl, by decide +kernel, by decide +kernel⟩
-- 0:h 1:heads 2:i 3:k
abbrev s_law_sized : Stmt := top 48
abbrev n_law_sized : List Str := ["a", "n", "m", "line", "x"]
theorem c_law_sized : FnScope n_law_sized ["a", "n", "m"] (defScope s_law_sized) := ⟨rfl, rfl, rfl, by decide +kernel, rfl, by decide +kernel, by decide +kernel⟩
-- 0:a 1:n 2:m 3:line 4:x
abbrev s_law_zeros : Stmt := top 49
abbrev n_law_zeros : List Str := ["h", "heads", "line", "left", "i", "q", "c"]
theorem c_law_zeros : FnScope n_law_zeros ["h", "heads", "line"] (defScope s_law_zeros) := ⟨rfl, rfl, rfl, by decide +kernel, rfl, by decide +kernel, by decide +kernel⟩
-- 0:h 1:heads 2:line 3:left 4:i 5:q 6:c
abbrev s_law_right : Stmt := top 50
abbrev n_law_right : List Str := ["a", "h", "heads", "line", "r", "x"]
theorem c_law_right : FnScope n_law_right ["a", "h"] (defScope s_law_right) := ⟨rfl, rfl, rfl, by decide +kernel, rfl, by decide +kernel, by decide +kernel⟩
-- 0:a 1:h 2:heads 3:line 4:r 5:x
abbrev s_law_drawn : Stmt := top 51
abbrev n_law_drawn : List Str := ["row", "n", "m", "wide", "a", "i", "line", "j", "k", "t", "x"]
theorem c_law_drawn : FnScope n_law_drawn ["row", "n", "m", "wide"] (defScope s_law_drawn) := ⟨rfl, rfl, rfl, by decide +kernel, rfl, by decide +kernel, by decide +kernel⟩
-- 0:row 1:n 2:m 3:wide 4:a 5:i 6:line 7:j 8:k 9:t 10:x
abbrev s_law_beside : Stmt := top 52
abbrev n_law_beside : List Str := ["row", "h", "n", "told", "kind", "i", "j", "line", "x"]
theorem c_law_beside : FnScope n_law_beside ["row", "h"] (defScope s_law_beside) := ⟨rfl, rfl, rfl, by decide +kernel, rfl, by decide +kernel, by decide +kernel⟩
-- 0:row 1:h 2:n 3:told 4:kind 5:i 6:j 7:line 8:x
abbrev s_law_told : Stmt := top 53
abbrev n_law_told : List Str := ["row", "a", "h", "heads", "r", "k", "other", "x"]
theorem c_law_told : FnScope n_law_told ["row", "a", "h"] (defScope s_law_told) := ⟨rfl, rfl, rfl, by decide +kernel, rfl, by decide +kernel, by decide +kernel⟩
-- 0:row 1:a 2:h 3:heads 4:r 5:k 6:other 7:x
abbrev s_law_large : Stmt := top 54
abbrev n_law_large : List Str := ["row", "n", "m", "lines", "columns", "worths", "h", "a", "k", "other", "line"]
theorem c_law_large : FnScope n_law_large ["row"] (defScope s_law_large) := ⟨rfl, rfl, rfl, by decide +kernel, rfl, by decide +kernel, by decide +kernel⟩
-- 0:row 1:n 2:m 3:lines 4:columns 5:worths 6:h 7:a 8:k 9:other 10:line
abbrev s_law : Stmt := top 55
abbrev n_law : List Str := ["script", "row", "large", "wide", "n", "m", "a", "handed", "h", "b", "k", "other", "i", "t", "j", "line", "x"]
theorem c_law : FnScope n_law ["script"] (defScope s_law) := ⟨rfl, rfl, rfl, by decide +kernel, rfl, by decide +kernel, by decide +kernel⟩
-- 0:script 1:row 2:large 3:wide 4:n 5:m 6:a 7:handed 8:h 9:b 10:k 11:other 12:i 13:t 14:j 15:line 16:x
abbrev s_Work_init : Stmt := inClass (top 20) 0
abbrev n_Work_init : List Str := ["self", "a", "row"]
theorem c_Work_init : FnScope n_Work_init ["self", "a"] (defScope s_Work_init) := ⟨rfl, rfl, rfl, by decide +kernel, rfl, by decide +kernel, by decide +kernel⟩
-- 0:self 1:a 2:row
abbrev s_Work_swap : Stmt := inClass (top 20) 1
abbrev n_Work_swap : List Str := ["self", "i", "j", "rows"]
theorem c_Work_swap : FnScope n_Work_swap ["self", "i", "j"] (defScope s_Work_swap) := ⟨rfl, rfl, rfl, by decide +kernel, rfl, by decide +kernel, by decide +kernel⟩
-- 0:self 1:i 2:j 3:rows
abbrev s_Work_turn : Stmt := inClass (top 20) 2
abbrev n_Work_turn : List Str := ["self", "i", "rows", "one"]
theorem c_Work_turn : FnScope n_Work_turn ["self", "i"] (defScope s_Work_turn) := ⟨rfl, rfl, rfl, by decide +kernel, rfl, by decide +kernel, by decide +kernel⟩
-- 0:self 1:i 2:rows 3:one
abbrev s_Work_take : Stmt := inClass (top 20) 3
abbrev n_Work_take : List Str := ["self", "i", "k", "j"]
theorem c_Work_take : FnScope n_Work_take ["self", "i", "k", "j"] (defScope s_Work_take) := ⟨rfl, rfl, rfl, by decide +kernel, rfl, by decide +kernel, by decide +kernel⟩
-- 0:self 1:i 2:k 3:j
abbrev s_Work_ways : Stmt := inClass (top 20) 4
abbrev n_Work_ways : List Str := ["self", "there", "back", "row"]
theorem c_Work_ways : FnScope n_Work_ways ["self"] (defScope s_Work_ways) := ⟨rfl, rfl, rfl, by decide +kernel, rfl, by decide +kernel, by decide +kernel⟩
-- 0:self 1:there 2:back 3:row
class WkCtx where
  Ca : Addr
  cA : Addr
  pA : Addr
open WkCtx
instance [WkCtx] : TabCtx := ⟨[(pA, "clear_column.<locals>.<lambda>")]⟩
variable [WkCtx]
structure Wd (g : Pg) : Prop where
  b : Bs g
  l_clear_column : TxtC g "clear_column" s_clear_column cA pA
  cls_Work : Cls g.K Ca
  no_rows : NoAttr g.K Ca "rows"
  no_there : NoAttr g.K Ca "there"
  no_back : NoAttr g.K Ca "back"
  mg_Work : g.mg "Work" = some (.ref Ca)
  in_Work : ∃ (f : Addr) (fd : FuncData), Fun g.K "__init__" "Work.__init__" s_Work_init f fd ∧ Mk g.K Ca f
  m_swap : TxtM g Ca "Work.swap" "swap" s_Work_swap
  m_turn : TxtM g Ca "Work.turn" "turn" s_Work_turn
  m_take : TxtM g Ca "Work.take" "take" s_Work_take
  m_ways : TxtM g Ca "Work.ways" "ways" s_Work_ways
  seer : g.base.NoSeer
  tree : g.P.given.tree = none
  t_is_number : TxtF g "is_number" s_is_number
  t_is_from_to : TxtF g "is_from_to" s_is_from_to
  t_is_row : TxtF g "is_row" s_is_row
  t_is_vector : TxtF g "is_vector" s_is_vector
  t_is_matrix : TxtF g "is_matrix" s_is_matrix
  t_checked_matrix : TxtF g "checked_matrix" s_checked_matrix
  t_flipped : TxtF g "flipped" s_flipped
  t_unit : TxtF g "unit" s_unit
  t_is_zero : TxtF g "is_zero" s_is_zero
  t_less_multiple : TxtF g "less_multiple" s_less_multiple
  t_lead : TxtF g "lead" s_lead
  t_is_echelon : TxtF g "is_echelon" s_is_echelon
  t_hermite_ways : TxtF g "hermite_ways" s_hermite_ways
  t_form_of : TxtF g "form_of" s_form_of
  t_basis_of : TxtF g "basis_of" s_basis_of
  t_rank_of : TxtF g "rank_of" s_rank_of
  t_pivots_of : TxtF g "pivots_of" s_pivots_of
  t_in_form : TxtF g "in_form" s_in_form
  t_hermite : TxtF g "hermite" s_hermite
  t_is_hermite : TxtF g "is_hermite" s_is_hermite
  t_rank : TxtF g "rank" s_rank
  t_basis : TxtF g "basis" s_basis
  t_pivots : TxtF g "pivots" s_pivots
  t_law_draws : TxtF g "_law_draws" s_law_draws
  t_law_take : TxtF g "_law_take" s_law_take
  t_law_like : TxtF g "_law_like" s_law_like
  t_law_rows : TxtF g "_law_rows" s_law_rows
  t_law_most : TxtF g "_law_most" s_law_most
  t_law_deed : TxtF g "_law_deed" s_law_deed
  t_law_lead : TxtF g "_law_lead" s_law_lead
  t_law_form : TxtF g "_law_form" s_law_form
  t_law_det : TxtF g "_law_det" s_law_det
  t_law_choices : TxtF g "_law_choices" s_law_choices
  t_law_gcd : TxtF g "_law_gcd" s_law_gcd
  t_law_divisor : TxtF g "_law_divisor" s_law_divisor
  t_law_heads : TxtF g "_law_heads" s_law_heads
  t_law_looks : TxtF g "_law_looks" s_law_looks
  t_law_sized : TxtF g "_law_sized" s_law_sized
  t_law_zeros : TxtF g "_law_zeros" s_law_zeros
  t_law_right : TxtF g "_law_right" s_law_right
  t_law_drawn : TxtF g "_law_drawn" s_law_drawn
  t_law_beside : TxtF g "_law_beside" s_law_beside
  t_law_told : TxtF g "_law_told" s_law_told
  t_law_large : TxtF g "_law_large" s_law_large
  t_law : TxtF g "law" s_law
  g_MOST_SIZE : ∃ t, g.mg "MOST_SIZE" = some (.int 8 t)
  g_MOST_NUMBER : ∃ t, g.mg "MOST_NUMBER" = some (.int 1000000 t)
section
/-! ### looks -/
section
variable {g : Pg}
def isFT (d : D) (l m : Int) : Bool := match d with
  | .int i => decide (l ≤ i) && decide (i ≤ m)
  | _ => false
def D.isSeq (d : D) : Bool := d.isLst || d.isTup
def F_is_number (d r : D) : Prop := r = .bl d.isNum
theorem ok_is_number (W : Wd g) : FN g "is_number" 1 (P1 F_is_number) := by
  refine FN.mk1 W.t_is_number c_is_number (fun _ _ _ _ _ _ us hl => match us, hl with | [_], _ => rfl) (fun d r h => ?_)
  subst h
  exact SB.one (ST.ret (EV.to (EV.and (EV.isInt (EV.nm 0) W.b.isinstance W.b.int) (fun _ => EV.and1 (EV.not (EV.isBool (EV.nm 0) W.b.isinstance W.b.bool))) (fun _ => rfl)) (by cases d <;> rfl)))
def F_is_from_to (d e f r : D) : Prop := ∃ l m, e = .int l ∧ f = .int m ∧ r = .bl (isFT d l m)
theorem ok_is_from_to (W : Wd g) : FN g "is_from_to" 2 (P3 F_is_from_to) := by
  refine FN.mk3 W.t_is_from_to c_is_from_to (fun _ _ _ _ _ _ us hl => match us, hl with | [_, _, _], _ => rfl) (fun d e f r h => ?_)
  obtain ⟨l, m, rfl, rfl, rfl⟩ := h
  cases d with
  | int i => exact SB.one (ST.ret (EV.to (EV.and (EV.c1 (ok_is_number W) (EV.nm 0) (by exact rfl)) (fun _ => EV.and1 (EV.chain (M4 := []) (EV.nm 1) (EV.nm 0) CS.leI (fun _ => EV.nm 2) (fun _ => CS.leI) (fun _ => rfl))) (fun _ => rfl)) rfl))
  | _ => exact SB.one (ST.ret (EV.to (EV.and (k1 := false) (k2 := false) (EV.c1 (ok_is_number W) (EV.nm 0) (by exact rfl)) (fun z => nomatch z) (fun _ => rfl)) rfl))
def F_is_row (d r : D) : Prop := r = .bl d.isSeq
theorem ok_is_row (W : Wd g) : FN g "is_row" 1 (P1 F_is_row) := by
  refine FN.mk1 W.t_is_row c_is_row (fun _ _ _ _ _ _ us hl => match us, hl with | [_], _ => rfl) (fun d r h => ?_)
  subst h
  exact SB.one (ST.ret (EV.isi2 (EV.nm 0) W.b.isinstance W.b.list W.b.tuple bv_list bv_tuple kit_list kit_tuple))
theorem seq_of {d : D} {ds : List D} (h : seqD d = some ds) : d.isSeq = true ∧ lenD d = some ds.length := by
  cases d <;> first | (cases h; exact ⟨rfl, rfl⟩) | cases h
theorem seq_no {d : D} (h : seqD d = none) : d.isSeq = false := by
  cases d <;> first | rfl | cases h
def isVec (d : D) : Bool := match seqD d with
  | some ds => (decide ((1 : Int) ≤ ds.length) && decide ((ds.length : Int) ≤ 8)) && ds.all fun e => isFT e (-1000000) 1000000
  | none => false
theorem gd1 {b : Bool} (h : (!true || !b) = true) : b = false := by cases b <;> simp_all
theorem gd2 {b : Bool} (h : (!true || !b) = false) : b = true := by cases b <;> simp_all
theorem all_map {α : Type} (f : α → Bool) (xs : List α) : (xs.map f).all id = xs.all f := by
  rw [List.all_map]
  rfl
theorem ok_is_vector (W : Wd g) : FN g "is_vector" 3 (P1 fun d r => r = .bl (isVec d)) := by
  refine FN.mk1 W.t_is_vector c_is_vector (fun _ _ _ _ _ _ us hl => match us, hl with | [_], _ => rfl) (fun d r h => ?_)
  subst h
  obtain ⟨tk, gS⟩ := W.g_MOST_SIZE
  obtain ⟨tk2, gN⟩ := W.g_MOST_NUMBER
  cases hd : seqD d with
  | none =>
    refine SB.guard (EW.et (EW.or (k1 := !d.isSeq) (k2 := false) (ET.not (ET.val (EV.c1 (ok_is_row W) (EV.nm 0) (by exact rfl)))) (fun z => by rw [seq_no hd] at z; cases z) (fun _ => rfl))) (fun _ => SB.one (ST.ret (EV.to EV.bl ?_))) (fun z => by rw [seq_no hd] at z; cases z)
    unfold isVec
    rw [hd]
  | some ds =>
    obtain ⟨h1, h2⟩ := seq_of hd
    refine SB.guard (EW.et (EW.or (ET.not (ET.val (EV.c1 (ok_is_row W) (EV.nm 0) (by exact rfl)))) (fun _ => EW.or1 (ET.not (ET.chain EV.int (EV.len (EV.nm 0) h2 W.b.len) CS.leI (fun _ => EV.gint gS) (fun _ => CS.leI) (fun _ => rfl)))) (fun _ => rfl))) (fun z => ?_) (fun z => ?_)
    · refine SB.one (ST.ret (EV.to EV.bl ?_))
      unfold isVec
      rw [hd]
      rw [h1] at z
      have z' : (decide ((1 : Int) ≤ ds.length) && decide ((ds.length : Int) ≤ 8)) = false := gd1 z
      show O.dat (.bl false) = O.dat (.bl ((decide ((1 : Int) ≤ ds.length) && decide ((ds.length : Int) ≤ 8)) && _))
      rw [z', Bool.false_and]
    · rw [h1] at z
      have z' : (decide ((1 : Int) ≤ ds.length) && decide ((ds.length : Int) ≤ 8)) = true := gd2 z
      have hlen : ds.length < 100000 := by
        rw [Bool.and_eq_true, decide_eq_true_eq, decide_eq_true_eq] at z'
        omega
      refine SB.one (ST.ret (EV.to (EV.all (bs := ds.map fun e => isFT e (-1000000) 1000000) ?_ W.b.all) ?_))
      · rw [List.map_map]
        exact LC.ev (LC.lM 1 (xs := ds) (f := fun e => e) (own := [("one", 1)]) (by rfl) c_is_vector.nd rfl (EV.nm 0) (by rw [hd, List.map_id']) (Nat.le_refl _) OkM.refl hlen
          (fun y _ M => EV.c3 (ok_is_from_to W) (EV.nm 1) (EV.neg (EV.gint gN)) (EV.gint gN) ⟨-1000000, 1000000, rfl, rfl, rfl⟩))
      · unfold isVec
        rw [hd, all_map]
        show _ = O.dat (.bl ((decide ((1 : Int) ≤ ds.length) && decide ((ds.length : Int) ≤ 8)) && _))
        rw [z', Bool.true_and]
def isMat (d : D) : Bool := match seqD d with
  | some ds => (decide ((1 : Int) ≤ ds.length) && decide ((ds.length : Int) ≤ 8)) && (ds.all isVec && ds.all fun e => decide (((lenD e).getD 0 : Nat) = ((lenD (ds.headD .non)).getD 0 : Nat)))
  | none => false
theorem vec_len {e : D} (h : isVec e = true) : ∃ es, seqD e = some es ∧ lenD e = some es.length := by
  unfold isVec at h
  cases hd : seqD e with
  | none => rw [hd] at h; cases h
  | some es => exact ⟨es, rfl, (seq_of hd).2⟩
theorem gd3 {b c : Bool} (h : (!true || (!b || !c)) = true) : (b && c) = false := by cases b <;> cases c <;> simp_all
theorem gd4 {b c : Bool} (h : (!true || (!b || !c)) = false) : b = true ∧ c = true := by cases b <;> cases c <;> simp_all
theorem ok_is_matrix (W : Wd g) : FN g "is_matrix" 4 (P1 fun d r => r = .bl (isMat d)) := by
  refine FN.mk1 W.t_is_matrix c_is_matrix (fun _ _ _ _ _ _ us hl => match us, hl with | [_], _ => rfl) (fun d r h => ?_)
  subst h
  obtain ⟨tk, gS⟩ := W.g_MOST_SIZE
  cases hd : seqD d with
  | none =>
    refine SB.guard (EW.et (EW.or (k1 := !d.isSeq) (k2 := false) (ET.not (ET.val (EV.c1 (ok_is_row W) (EV.nm 0) (by exact rfl)))) (fun z => by rw [seq_no hd] at z; cases z) (fun _ => rfl))) (fun _ => SB.one (ST.ret (EV.to EV.bl ?_))) (fun z => by rw [seq_no hd] at z; cases z)
    unfold isMat
    rw [hd]
  | some ds =>
    obtain ⟨h1, h2⟩ := seq_of hd
    have hall : ∀ {q1 : Pos} {E : List O} (hlen : (decide ((1 : Int) ≤ ds.length) && decide ((ds.length : Int) ≤ 8)) = true), ds.length < 100000 := fun {_ _} z => by
      rw [Bool.and_eq_true, decide_eq_true_eq, decide_eq_true_eq] at z
      omega
    refine SB.guard (k := !d.isSeq || (!(decide ((1 : Int) ≤ ds.length) && decide ((ds.length : Int) ≤ 8)) || !(ds.map isVec).all id)) (EW.et (EW.or (ET.not (ET.val (EV.c1 (ok_is_row W) (EV.nm 0) (by exact rfl)))) (fun _ => EW.or (ET.not (ET.chain EV.int (EV.len (EV.nm 0) h2 W.b.len) CS.leI (fun _ => EV.gint gS) (fun _ => CS.leI) (fun _ => rfl))) (fun z => EW.or1 (ET.not (ET.val (EV.all ?_ W.b.all)))) (fun _ => rfl)) (fun _ => rfl))) (fun z => ?_) (fun z => ?_)
    · rw [List.map_map]
      exact LC.ev (LC.lM 1 (xs := ds) (f := fun e => e) (own := [("row", 1)]) (by rfl) c_is_matrix.nd rfl (EV.nm 0) (by rw [hd, List.map_id']) (Nat.le_refl _) OkM.refl (hall (q1 := ⟨0, 0, 0, 0⟩) (E := []) (by simpa using z))
          (fun y _ M => EV.c1 (ok_is_vector W) (EV.nm 1) (by exact rfl)))
    · refine SB.one (ST.ret (EV.to EV.bl ?_))
      unfold isMat
      rw [hd]
      rw [h1, all_map] at z
      show O.dat (.bl false) = O.dat (.bl ((decide ((1 : Int) ≤ ds.length) && decide ((ds.length : Int) ≤ 8)) && (ds.all isVec && _)))
      rw [← Bool.and_assoc, gd3 z, Bool.false_and]
    · rw [h1, all_map] at z
      obtain ⟨z1, z2⟩ := gd4 z
      have hl := hall (q1 := ⟨0, 0, 0, 0⟩) (E := []) z1
      have hv : ∀ e ∈ ds, isVec e = true := List.all_eq_true.mp z2
      obtain ⟨e0, r0, rfl⟩ : ∃ e0 r0, ds = e0 :: r0 := by
        cases ds with
        | nil => simp at z1
        | cons e0 r0 => exact ⟨e0, r0, rfl⟩
      obtain ⟨es0, p0, q0⟩ := vec_len (hv e0 List.mem_cons_self)
      have hix : ixD d ((0 : Nat) : Int) = some e0 := by
        cases d <;> first | (cases hd; exact atI_nat rfl) | cases hd
      refine SB.one (ST.ret (EV.to (EV.all (bs := (e0 :: r0).map fun e => decide ((((lenD e).getD 0 : Nat) : Int) = ((es0.length : Nat) : Int))) ?_ W.b.all) ?_))
      · rw [List.map_map]
        refine LC.ev (LC.lM 1 (xs := e0 :: r0) (f := fun e => e) (own := [("row", 1)]) (by rfl) c_is_matrix.nd rfl (EV.nm 0) (by rw [hd, List.map_id']) (Nat.le_refl _) OkM.refl hl (fun y hy M => ?_))
        obtain ⟨es, p1, q1⟩ := vec_len (hv y hy)
        have e1 : (lenD y).getD 0 = es.length := by rw [q1]; rfl
        show EV _ _ _ _ (.dat (.bl (decide ((((lenD y).getD 0 : Nat) : Int) = ((es0.length : Nat) : Int))))) _
        rw [e1]
        exact EV.cm (EV.len (EV.nm 1) q1 W.b.len) (EV.len (EV.ix (EV.nm 0) EV.int hix) q0 W.b.len) CS.eqI
      · unfold isMat
        rw [hd, all_map]
        show _ = O.dat (.bl ((decide ((1 : Int) ≤ ((e0 :: r0).length : Nat)) && decide (((e0 :: r0).length : Int) ≤ 8)) && ((e0 :: r0).all isVec && _)))
        rw [z1, z2, Bool.true_and, Bool.true_and]
        show O.dat (.bl ((e0 :: r0).all _)) = O.dat (.bl ((e0 :: r0).all _))
        congr 3
        funext e
        rw [Bool.eq_iff_iff]
        simp [q0]
        constructor <;> intro h <;> omega
end
/-! ### the mathematics of rows -/
def wd (m : List (List Int)) : Nat := (m.headD []).length
structure Mx (m : List (List Int)) : Prop where
  l1 : 1 ≤ m.length
  l8 : m.length ≤ 8
  w1 : 1 ≤ wd m
  w8 : wd m ≤ 8
  rect : ∀ r ∈ m, r.length = wd m
  num : ∀ r ∈ m, ∀ x ∈ r, -1000000 ≤ x ∧ x ≤ 1000000
structure Vx (v : List Int) : Prop where
  l1 : 1 ≤ v.length
  l8 : v.length ≤ 8
  num : ∀ x ∈ v, -1000000 ≤ x ∧ x ≤ 1000000
def IsV (d : D) (v : List Int) : Prop := Vx v ∧ seqD d = some (v.map .int)
def IsM (d : D) (m : List (List Int)) : Prop := Mx m ∧ ∃ ds, seqD d = some ds ∧ Paired (fun e (r : List Int) => seqD e = some (r.map .int)) ds m
theorem Mx.row {m : List (List Int)} (h : Mx m) {r : List Int} (hr : r ∈ m) : Vx r := ⟨by rw [h.rect r hr]; exact h.w1, by rw [h.rect r hr]; exact h.w8, h.num r hr⟩
theorem paired_tM : ∀ m : List (List Int), Paired (fun e (r : List Int) => seqD e = some (r.map D.int)) (m.map tV) m
  | [] => .nil
  | _ :: m => .cons rfl (paired_tM m)
theorem paired_lM : ∀ m : List (List Int), Paired (fun e (r : List Int) => seqD e = some (r.map D.int)) (m.map lV) m
  | [] => .nil
  | _ :: m => .cons rfl (paired_lM m)
theorem isM_t {m : List (List Int)} (h : Mx m) : IsM (tM m) m := ⟨h, _, rfl, paired_tM m⟩
theorem isM_l {m : List (List Int)} (h : Mx m) : IsM (lM m) m := ⟨h, _, rfl, paired_lM m⟩
theorem isV_t {v : List Int} (h : Vx v) : IsV (tV v) v := ⟨h, rfl⟩
theorem isV_l {v : List Int} (h : Vx v) : IsV (lV v) v := ⟨h, rfl⟩
def dot (xs ys : List Int) : Int := ((xs.zip ys).map fun u => u.1 * u.2).sum
def flip (m : List (List Int)) : List (List Int) := (List.range (wd m)).map fun j => m.map fun r => r.getD j 0
def mulM (m n : List (List Int)) : List (List Int) := m.map fun r => (flip n).map fun c => dot r c
def ledBy (v : List Int) (m : List (List Int)) : List Int := (List.range (wd m)).map fun j => ((v.zip m).map fun u => u.1 * u.2.getD j 0).sum
def ontoM (m : List (List Int)) (v : List Int) : List Int := m.map fun r => dot r v
def unitM (n : Nat) : List (List Int) := (List.range n).map fun i => (List.range n).map fun j => if j = i then 1 else 0
def manyM (m : List (List Int)) (k : Int) : List (List Int) := m.map fun r => r.map fun x => k * x
def addM (m n : List (List Int)) : List (List Int) := (m.zip n).map fun u => (u.1.zip u.2).map fun w => w.1 + w.2
def besM (m n : List (List Int)) : List (List Int) := (m.zip n).map fun u => u.1 ++ u.2
def gcdL (v : List Int) : Int := v.foldl (fun a x => (Nat.gcd a.natAbs x.natAbs : Nat)) 0
def MulOk (a b : List (List Int)) : Prop := ∀ r ∈ a, ∀ x ∈ r, ∀ q ∈ b, ∀ y ∈ q, IntMulOk x y
theorem getD_of_lt {r : List Int} {j : Nat} (h : j < r.length) : r[j]? = some (r.getD j 0) := by
  rw [List.getD_eq_getElem?_getD, List.getElem?_eq_getElem h]
  rfl
theorem ix_tV {r : List Int} {j : Nat} (h : j < r.length) : ixD (tV r) ((j : Nat) : Int) = some (.int (r.getD j 0)) := by
  refine atI_nat ?_
  rw [List.getElem?_map, getD_of_lt h]
  rfl
theorem ix_lV {r : List Int} {j : Nat} (h : j < r.length) : ixD (lV r) ((j : Nat) : Int) = some (.int (r.getD j 0)) := by
  refine atI_nat ?_
  rw [List.getElem?_map, getD_of_lt h]
  rfl
theorem ix_tM {m : List (List Int)} {j : Nat} (h : j < m.length) : ixD (tM m) ((j : Nat) : Int) = some (tV (m.getD j [])) := by
  refine atI_nat ?_
  rw [List.getElem?_map, List.getElem?_eq_getElem h, List.getD_eq_getElem?_getD, List.getElem?_eq_getElem h]
  rfl
theorem ix_lM {m : List (List Int)} {j : Nat} (h : j < m.length) : ixD (lM m) ((j : Nat) : Int) = some (lV (m.getD j [])) := by
  refine atI_nat ?_
  rw [List.getElem?_map, List.getElem?_eq_getElem h, List.getD_eq_getElem?_getD, List.getElem?_eq_getElem h]
  rfl
theorem ix_tM0 {m : List (List Int)} (h : m ≠ []) : ixD (tM m) (0 : Int) = some (tV (m.headD [])) := by
  cases m with
  | nil => exact absurd rfl h
  | cons r q => exact ix_tM (j := 0) (by simp)
theorem len_tV {r : List Int} : lenD (tV r) = some r.length := by show some (r.map D.int).length = _; rw [List.length_map]
theorem len_tM {m : List (List Int)} : lenD (tM m) = some m.length := by show some (m.map tV).length = _; rw [List.length_map]
theorem len_lV {r : List Int} : lenD (lV r) = some r.length := by show some (r.map D.int).length = _; rw [List.length_map]
theorem len_lM {m : List (List Int)} : lenD (lM m) = some m.length := by show some (m.map lV).length = _; rw [List.length_map]
section
variable {g : Pg}
theorem tM_map {α : Type} {f : α → List Int} {xs : List α} : tM (xs.map f) = .tup (xs.map fun a => .tup ((f a).map D.int)) := by
  show D.tup _ = D.tup _
  rw [List.map_map]
  rfl
theorem tM_map2 {α β : Type} {f : α → β → Int} {ys : α → List β} {xs : List α} : tM (xs.map fun a => (ys a).map (f a)) = .tup (xs.map fun a => .tup ((ys a).map fun b => .int (f a b))) := by
  rw [tM_map]
  show D.tup _ = D.tup _
  congr 2
  funext a
  show D.tup _ = D.tup _
  rw [List.map_map]
  rfl
theorem tV_map {α : Type} {f : α → Int} {xs : List α} : tV (xs.map f) = .tup (xs.map fun a => .int (f a)) := by
  show D.tup _ = D.tup _
  rw [List.map_map]
  rfl
theorem ok_flipped (W : Wd g) : FN g "flipped" 1 (P1 fun d r => ∃ m, d = tM m ∧ m ≠ [] ∧ (∀ q ∈ m, q.length = wd m) ∧ m.length < 100000 ∧ wd m < 100000 ∧ r = tM (flip m)) := by
  refine FN.mk1 W.t_flipped c_flipped (fun _ _ _ _ _ _ us hl => match us, hl with | [_], _ => rfl) (fun d r h => ?_)
  obtain ⟨m, rfl, h0, hr, hl, hw, rfl⟩ := h
  have e : tM (flip m) = .tup ((List.range (wd m)).map fun j => .tup (m.map fun q => .int (q.getD j 0))) := by
    unfold flip
    exact tM_map2
  rw [e]
  refine SB.one (ST.ret (EV.tuple (LC.ev (LC.lR 1 (j := ((wd m : Nat) : Int)) (g := fun j => .tup (m.map fun q => .int (q.getD j 0))) (own := [("at", 1)]) (by rfl) c_flipped.nd rfl (EV.len (EV.ix (EV.nm 0) EV.int (ix_tM0 h0)) len_tV W.b.len) W.b.range (Nat.le_refl _) OkM.refl (by omega) (fun i hi M => ?_))) rfl W.b.tuple))
  exact EV.tuple (LC.ev (LC.lM 2 (xs := m) (f := tV) (g := fun q => .int (q.getD i 0)) (own := [("row", 2)]) (by rfl) c_flipped.nd rfl (EV.nm 0) rfl (Nat.le_refl _) OkM.refl hl (fun q hq M => EV.ix (EV.nm 2) (EV.nm 1) (ix_tV (by rw [hr q hq]; omega))))) rfl W.b.tuple
theorem flip_len {m : List (List Int)} {c : List Int} (h : c ∈ flip m) : c.length = m.length := by
  unfold flip at h
  obtain ⟨j, _, rfl⟩ := List.mem_map.mp h
  exact List.length_map _
theorem flip_mem {m : List (List Int)} {c : List Int} (hr : ∀ q ∈ m, q.length = wd m) (h : c ∈ flip m) {y : Int} (hy : y ∈ c) : ∃ q ∈ m, y ∈ q := by
  unfold flip at h
  obtain ⟨j, hj, rfl⟩ := List.mem_map.mp h
  obtain ⟨q, hq, rfl⟩ := List.mem_map.mp hy
  have hlt : j < q.length := by rw [hr q hq]; exact List.mem_range.mp hj
  exact ⟨q, hq, List.mem_of_getElem? (getD_of_lt hlt)⟩
theorem flip_length {m : List (List Int)} : (flip m).length = wd m := by unfold flip; rw [List.length_map, List.length_range]
theorem ok_unit (W : Wd g) : FN g "unit" 1 (P1 fun d r => ∃ n : Nat, n < 100000 ∧ d = .int (n : Int) ∧ r = tM (unitM n)) := by
  refine FN.mk1 W.t_unit c_unit (fun _ _ _ _ _ _ us hl => match us, hl with | [_], _ => rfl) (fun d r h => ?_)
  obtain ⟨n, hn, rfl, rfl⟩ := h
  have e : tM (unitM n) = .tup ((List.range n).map fun i => .tup ((List.range n).map fun j => .int (if decide (((j : Nat) : Int) = ((i : Nat) : Int)) then 1 else 0))) := by
    unfold unitM
    simp only [tM, tV, List.map_map]
    congr 2
    funext i
    show D.tup _ = D.tup _
    rw [List.map_map]
    congr 2
    funext j
    show D.int _ = D.int _
    congr 1
    show (if j = i then (1 : Int) else 0) = _
    by_cases h : j = i
    · subst h; simp
    · rw [if_neg h, if_neg]; simp; omega
  rw [e]
  refine SB.one (ST.ret (EV.tuple (LC.ev (LC.lR 1 (j := ((n : Nat) : Int)) (g := fun i => .tup ((List.range n).map fun j => .int (if decide (((j : Nat) : Int) = ((i : Nat) : Int)) then 1 else 0))) (own := [("row", 1)]) (by rfl) c_unit.nd rfl (EV.nm 0) W.b.range (Nat.le_refl _) OkM.refl (by omega) (fun i hi M => ?_))) rfl W.b.tuple))
  exact EV.tuple (LC.ev (LC.lR 2 (j := ((n : Nat) : Int)) (g := fun j => .int (if decide (((j : Nat) : Int) = ((i : Nat) : Int)) then 1 else 0)) (own := [("at", 2)]) (by rfl) c_unit.nd rfl (EV.nm 0) W.b.range (Nat.le_refl _) OkM.refl (by omega) (fun j hj M => EV.intB (EV.cm (EV.nm 2) (EV.nm 1) CS.eqI) W.b.int))) rfl W.b.tuple
theorem isFT_of {x : Int} (h : -1000000 ≤ x ∧ x ≤ 1000000) : isFT (.int x) (-1000000) 1000000 = true := by
  show (decide _ && decide _) = true
  rw [decide_eq_true h.1, decide_eq_true h.2]
  rfl
theorem len_ok {n : Nat} (h1 : 1 ≤ n) (h8 : n ≤ 8) : (decide ((1 : Int) ≤ n) && decide ((n : Int) ≤ 8)) = true := by
  rw [decide_eq_true (by omega), decide_eq_true (by omega)]
  rfl
theorem isVec_of {d : D} {v : List Int} (h : IsV d v) : isVec d = true := by
  unfold isVec
  rw [h.2]
  show ((decide ((1 : Int) ≤ (v.map D.int).length) && decide (((v.map D.int).length : Int) ≤ 8)) && (v.map D.int).all _) = true
  rw [List.length_map, len_ok h.1.l1 h.1.l8, Bool.true_and, List.all_map, List.all_eq_true]
  exact fun x hx => isFT_of (h.1.num x hx)
theorem paired_mem {α β : Type} {R : α → β → Prop} : ∀ {xs : List α} {ys : List β}, Paired R xs ys → ∀ x ∈ xs, ∃ y ∈ ys, R x y
  | _, _, .nil, x, hx => by simp at hx
  | _, _, .cons h r, x, hx => by
    rcases List.mem_cons.mp hx with rfl | hx
    · exact ⟨_, List.mem_cons_self, h⟩
    · obtain ⟨y, h1, h2⟩ := paired_mem r x hx
      exact ⟨y, List.mem_cons_of_mem _ h1, h2⟩
theorem len_seq {d : D} {ds : List D} (h : seqD d = some ds) : lenD d = some ds.length := (seq_of h).2
theorem isMat_of {d : D} {m : List (List Int)} (h : IsM d m) : isMat d = true := by
  obtain ⟨hm, ds, hd, hp⟩ := h
  have hl : ds.length = m.length := hp.length
  have e1 : ds.all isVec = true := List.all_eq_true.mpr fun e he => by
    obtain ⟨r, hr, hs⟩ := paired_mem hp e he
    exact isVec_of ⟨hm.row hr, hs⟩
  have hlen : ∀ e ∈ ds, (lenD e).getD 0 = wd m := fun e he => by
    obtain ⟨r, hr, hs⟩ := paired_mem hp e he
    rw [len_seq hs, List.length_map, hm.rect r hr]
    rfl
  unfold isMat
  rw [hd]
  show ((decide ((1 : Int) ≤ ds.length) && decide ((ds.length : Int) ≤ 8)) && (ds.all isVec && ds.all _)) = true
  rw [hl, len_ok hm.l1 hm.l8, e1, Bool.true_and, Bool.true_and, List.all_eq_true]
  intro e he
  have h0 : (lenD (ds.headD .non)).getD 0 = wd m := by
    cases ds with
    | nil => simp at he
    | cons e0 r0 => exact hlen e0 List.mem_cons_self
  rw [hlen e he, h0]
  exact decide_eq_true rfl
def tupD (e : D) : D := .tup ((seqD e).getD [])
theorem paired_tup : ∀ {ds : List D} {m : List (List Int)}, Paired (fun e (r : List Int) => seqD e = some (r.map D.int)) ds m → ds.map tupD = m.map tV
  | _, _, .nil => rfl
  | _, _, .cons h r => by
    rw [List.map_cons, List.map_cons, paired_tup r]
    show D.tup _ :: _ = _
    rw [h]
    rfl
theorem Mx.ne {m : List (List Int)} (h : Mx m) : m ≠ [] := fun e => by
  have := h.l1
  rw [e] at this
  exact absurd this (by decide)
theorem ok_checked_matrix (W : Wd g) : FN g "checked_matrix" 5 (P1 fun d r => ∃ m, IsM d m ∧ r = tM m) := by
  refine FN.mk1 W.t_checked_matrix c_checked_matrix (fun _ _ _ _ _ _ us hl => match us, hl with | [_], _ => rfl) (fun d r h => ?_)
  obtain ⟨m, hm, rfl⟩ := h
  have hM := isMat_of hm
  obtain ⟨hx, ds, hd, hp⟩ := hm
  have hl : ds.length < 100000 := by
    have := hx.l8
    rw [hp.length]
    omega
  have e : tM m = .tup (ds.map tupD) := by rw [paired_tup hp]
  rw [e]
  refine SB.cons (ST.no (ET.to (ET.not (ET.val (EV.c1 (ok_is_matrix W) (EV.nm 0) (by exact rfl)))) (by rw [hM]; rfl)) SB.nil) (SB.one (ST.ret (EV.tuple (LC.ev (LC.lM 1 (xs := ds) (f := fun e => e) (g := tupD) (own := [("row", 1)]) (by rfl) c_checked_matrix.nd rfl (EV.nm 0) (by rw [hd, List.map_id']) (Nat.le_refl _) OkM.refl hl (fun y hy M => ?_))) rfl W.b.tuple)))
  obtain ⟨r, _, hr⟩ := paired_mem hp y hy
  have e2 : tupD y = .tup (r.map D.int) := by
    show D.tup _ = _
    rw [hr]
    rfl
  show EV _ _ _ _ (.dat (tupD y)) _
  rw [e2]
  exact EV.tuple (EV.nm 1) hr W.b.tuple
theorem Mx.sm {m : List (List Int)} (h : Mx m) : m.length < 100000 ∧ wd m < 100000 ∧ ∀ q ∈ m, q.length < 100000 := by
  have := h.l8
  have := h.w8
  exact ⟨by omega, by omega, fun q hq => by rw [h.rect q hq]; omega⟩
def tgOf : Stmt → Expr
  | .For t _ _ _ _ => t
  | _ => .Constant .none 0 ⟨0, 0, 0, 0⟩
theorem mem_getD {α : Type} {m : List α} {a0 : α} {i : Nat} (hi : i < m.length) : m.getD i a0 ∈ m := by
  rw [List.getD_eq_getElem?_getD, List.getElem?_eq_getElem hi]
  exact List.getElem_mem hi
def optN : Option Nat → D
  | some p => .int (p : Int)
  | none => .non
def leadF (v : List Int) : Option Nat := v.findIdx? fun x => !decide (x = 0)
theorem ok_lead (W : Wd g) : FN g "lead" 1 (P1 fun d r => ∃ v, d = tV v ∧ r = optN (leadF v)) := by
  refine FN.mk1 W.t_lead c_lead (fun _ _ _ _ _ _ us hl => match us, hl with | [_], _ => rfl) (fun d r h => ?_)
  obtain ⟨v, rfl, rfl⟩ := h
  have hlen : (v.map D.int).length = v.length := List.length_map _
  have hat : ∀ i, i < v.length → atN (v.map D.int) i = .dat (.tup [.int (i : Int), .int (v.getD i 0)]) := fun i hi => by
    unfold atN
    rw [List.getD_eq_getElem?_getD, List.getElem?_map, getD_of_lt hi]
    rfl
  have step : ∀ (i : Nat) (hi : i < v.length), EG (mkC g n_lead s_lead 0) (tgOf ((defBody s_lead).getD 0 (.Pass ⟨0, 0, 0, 0⟩))) (atN (v.map D.int) i) [.dat (tV v), .no, .no] [] [.dat (tV v), .dat (.int (i : Int)), .dat (.int (v.getD i 0))] [] := fun i hi => by
    rw [hat i hi]
    exact EG.tup (ds := [.int (i : Int), .int (v.getD i 0)]) (EGs.cons (EG.nm 1 c_lead.nd) (EGs.cons (EG.nm 2 c_lead.nd) EGs.nil))
  cases hf : leadF v with
  | none =>
    have hz : ∀ i, i < v.length → v.getD i 0 = 0 := fun i hi => by
      have := List.findIdx?_eq_none_iff.mp hf (v.getD i 0) (mem_getD hi)
      simpa using this
    refine SB.cons (ST.for (m := v.length) (n := v.length) (E_ := fun _ => [.dat (tV v), .no, .no]) (M_ := fun _ => []) (hlen ▸ EI.enum (EV.nm 0) W.b.enumerate) Fg.refl rfl (Nat.le_refl _) (fun _ _ => True.intro) (fun i hi => ⟨_, _, _, step i hi, ?_, .inl (SB.one (ST.no (ET.to (ET.cm (EV.nm 2) EV.int CS.neI) (by rw [hz i hi]; rfl)) SB.nil))⟩) (.inl ⟨rfl, rfl⟩)) (SB.one (ST.ret EV.non))
    exact Fg.cons (Fg.no (Fg.no Fg.nil))
  | some p =>
    obtain ⟨hp, h1, h2⟩ := List.findIdx?_eq_some_iff_getElem.mp hf
    have hz : ∀ i, i < p → v.getD i 0 = 0 := fun i hi => by
      have := h2 i hi
      rw [List.getD_eq_getElem?_getD, List.getElem?_eq_getElem (by omega)]
      simpa using this
    have hp0 : (!decide (v.getD p 0 = 0)) = true := by
      rw [List.getD_eq_getElem?_getD, List.getElem?_eq_getElem hp]
      exact h1
    refine SB.stop (ST.for (m := p) (n := v.length) (E_ := fun _ => [.dat (tV v), .no, .no]) (M_ := fun _ => []) (hlen ▸ EI.enum (EV.nm 0) W.b.enumerate) Fg.refl rfl (Nat.le_of_lt hp) (fun _ _ => True.intro) (fun i hi => ⟨_, _, _, step i (by omega), ?_, .inl (SB.one (ST.no (ET.to (ET.cm (EV.nm 2) EV.int CS.neI) (by rw [hz i hi]; rfl)) SB.nil))⟩) (.inr ⟨hp, _, _, step p hp, .inl ⟨_, _, SB.one (ST.yes (ET.to (ET.cm (EV.nm 2) EV.int CS.neI) hp0) (SB.one (ST.ret (EV.nm 1)))), rfl⟩⟩))
    exact Fg.cons (Fg.no (Fg.no Fg.nil))
end
end
section
section
variable {g : Pg}
def thenOf : Stmt → List Stmt
  | .If _ y _ _ => y
  | _ => []
def ifOf : Stmt → Expr
  | .If c _ _ _ => c
  | _ => .Constant .none 0 ⟨0, 0, 0, 0⟩
def bodyOf : Stmt → List Stmt
  | .For _ _ b _ _ => b
  | _ => []
theorem least {P : Nat → Prop} : ∀ m, P m → ∃ k, k ≤ m ∧ P k ∧ ∀ j, j < k → ¬ P j := fun m => by
  induction m using Nat.strongRecOn with
  | _ m ih =>
    intro h
    by_cases hk : ∃ j, j < m ∧ P j
    · obtain ⟨j, hj, hp⟩ := hk
      obtain ⟨k, h1, h2, h3⟩ := ih j hj hp
      exact ⟨k, by omega, h2, h3⟩
    · exact ⟨m, Nat.le_refl _, h, fun j hj hp => hk ⟨j, hj, hp⟩⟩
def stp (last : Int) (r : List Int) : Option Int := match leadF r with
  | none => some r.length
  | some p => if (p : Int) ≤ last then none else some p
def lasts (m : List (List Int)) : Nat → Int
  | 0 => -1
  | i + 1 => (stp (lasts m i) (m.getD i [])).getD 0
def echB (m : List (List Int)) : Bool := (List.range m.length).all fun i => (stp (lasts m i) (m.getD i [])).isSome
theorem ok_is_echelon (W : Wd g) : FN g "is_echelon" 2 (P1 fun d r => ∃ m, d = tM m ∧ r = .bl (echB m)) := by
  refine FN.mk1 W.t_is_echelon c_is_echelon (fun _ _ _ _ _ _ us hl => match us, hl with | [_], _ => rfl) (fun d r h => ?_)
  obtain ⟨m, rfl, rfl⟩ := h
  have hlen : (m.map tV).length = m.length := List.length_map _
  have hat : ∀ i, i < m.length → atO (m.map tV) i = .dat (tV (m.getD i [])) := fun i hi => by
    rw [atO_map hi, List.getD_eq_getElem?_getD, List.getElem?_eq_getElem hi]
    rfl
  let E := fun (l : Int) => ([.dat (tM m), .dat (.int l), .no, .no] : List O)
  have good : ∀ (l l' : Int) (rw' : List Int), stp l rw' = some l' → ∃ E2, Fg E2 (E l') ∧ SB (mkC g n_is_echelon s_is_echelon 1) (bodyOf ((defBody s_is_echelon).getD 1 (.Pass ⟨0, 0, 0, 0⟩))) [.dat (tM m), .dat (.int l), .dat (tV rw'), .no] [] (.nx E2 []) := fun l l' rw' hs => by
    cases hl : leadF rw' with
    | none =>
      have e : l' = (rw'.length : Int) := by
        unfold stp at hs
        rw [hl] at hs
        exact (Option.some.inj hs).symm
      subst e
      refine ⟨_, ?_, SB.cons (ST.set 3 (EV.to (EV.c1 (ok_lead W) (EV.nm 2) ⟨rw', rfl, rfl⟩) (by rw [hl])) c_is_echelon.nd) (SB.one (ST.yes (ET.to (ET.isN (d := .non) (EV.nm 3)) rfl) (SB.one (ST.set 1 (EV.len (EV.nm 2) len_tV W.b.len) c_is_echelon.nd))))⟩
      exact Fg.cons (Fg.cons (Fg.no (Fg.no Fg.nil)))
    | some p =>
      unfold stp at hs
      rw [hl] at hs
      have hs' : (if (p : Int) ≤ l then none else some (p : Int)) = some l' := hs
      by_cases hp : (p : Int) ≤ l
      · rw [if_pos hp] at hs'
        cases hs'
      · rw [if_neg hp] at hs'
        cases hs'
        refine ⟨_, ?_, SB.cons (ST.set 3 (EV.to (EV.c1 (ok_lead W) (EV.nm 2) ⟨rw', rfl, rfl⟩) (by rw [hl])) c_is_echelon.nd) (SB.one (ST.no (ET.to (ET.isN (d := .int (p : Int)) (EV.nm 3)) rfl) (SB.one (ST.no (ET.to (ET.cm (EV.nm 3) (EV.nm 1) CS.leI) (decide_eq_false hp)) (SB.one (ST.set 1 (EV.nm 3) c_is_echelon.nd))))))⟩
        exact Fg.cons (Fg.cons (Fg.no (Fg.no Fg.nil)))
  have bad : ∀ (l : Int) (rw' : List Int), stp l rw' = none → SB (mkC g n_is_echelon s_is_echelon 1) (bodyOf ((defBody s_is_echelon).getD 1 (.Pass ⟨0, 0, 0, 0⟩))) [.dat (tM m), .dat (.int l), .dat (tV rw'), .no] [] (.rt (.dat (.bl false)) []) := fun l rw' hs => by
    cases hl : leadF rw' with
    | none =>
      unfold stp at hs
      rw [hl] at hs
      cases hs
    | some p =>
      unfold stp at hs
      rw [hl] at hs
      have hs' : (if (p : Int) ≤ l then none else some (p : Int)) = none := hs
      by_cases hp : (p : Int) ≤ l
      · exact SB.cons (ST.set 3 (EV.to (EV.c1 (ok_lead W) (EV.nm 2) ⟨rw', rfl, rfl⟩) (by rw [hl])) c_is_echelon.nd) (SB.one (ST.no (ET.to (ET.isN (d := .int (p : Int)) (EV.nm 3)) rfl) (SB.one (ST.yes (ET.to (ET.cm (EV.nm 3) (EV.nm 1) CS.leI) (decide_eq_true hp)) (SB.one (ST.ret EV.bl))))))
      · rw [if_neg hp] at hs'
        cases hs'
  have gs : ∀ i, i < m.length → (stp (lasts m i) (m.getD i [])).isSome = true → stp (lasts m i) (m.getD i []) = some (lasts m (i + 1)) := fun i hi hs => by
    obtain ⟨v, hv⟩ := Option.isSome_iff_exists.mp hs
    rw [hv]
    show some v = some ((stp (lasts m i) (m.getD i [])).getD 0)
    rw [hv]
    rfl
  by_cases hex : ∃ i, i < m.length ∧ stp (lasts m i) (m.getD i []) = none
  · obtain ⟨i, hi1, hi2⟩ := hex
    obtain ⟨k, hk1, hk2, hk3⟩ := least (P := fun i => stp (lasts m i) (m.getD i []) = none) i hi2
    have e : echB m = false := by
      rw [← Bool.not_eq_true]
      intro h
      have := List.all_eq_true.mp h k (List.mem_range.mpr (by omega))
      rw [hk2] at this
      cases this
    rw [e]
    refine SB.cons (ST.set 1 (EV.neg EV.int) c_is_echelon.nd) (SB.stop (ST.for (m := k) (n := m.length) (E_ := fun i => E (lasts m i)) (M_ := fun _ => []) (hlen ▸ EI.tup (EV.nm 0)) Fg.refl rfl (by omega) (fun _ _ => True.intro) (fun i hi => ?_) (.inr ⟨by omega, _, _, EG.nm 2 c_is_echelon.nd, .inl ⟨_, _, ?_, rfl⟩⟩)))
    · have hs : (stp (lasts m i) (m.getD i [])).isSome = true := by
        rw [Option.isSome_iff_ne_none]
        exact hk3 i hi
      obtain ⟨E2, h1, h2⟩ := good _ _ _ (gs i (by omega) hs)
      refine ⟨_, _, E2, EG.nm 2 c_is_echelon.nd, h1, .inl ?_⟩
      rw [hat i (by omega)]
      exact h2
    · rw [hat k (by omega)]
      exact bad _ _ hk2
  · have hall : ∀ i, i < m.length → (stp (lasts m i) (m.getD i [])).isSome = true := fun i hi => by
      rw [Option.isSome_iff_ne_none]
      exact fun h => hex ⟨i, hi, h⟩
    have e : echB m = true := List.all_eq_true.mpr fun i hi => hall i (List.mem_range.mp hi)
    rw [e]
    refine SB.cons (ST.set 1 (EV.neg EV.int) c_is_echelon.nd) (SB.cons (ST.for (m := m.length) (n := m.length) (E_ := fun i => E (lasts m i)) (M_ := fun _ => []) (hlen ▸ EI.tup (EV.nm 0)) Fg.refl rfl (Nat.le_refl _) (fun _ _ => True.intro) (fun i hi => ?_) (.inl ⟨rfl, rfl⟩)) (SB.one (ST.ret EV.bl)))
    obtain ⟨E2, h1, h2⟩ := good _ _ _ (gs i hi (hall i hi))
    refine ⟨_, _, E2, EG.nm 2 c_is_echelon.nd, h1, .inl ?_⟩
    rw [hat i hi]
    exact h2
end
/-! ### Work -/
section
variable {g : Pg}
structure WS where
  r : List (List Int)
  t : List (List Int)
  b : List (List Int)
def swapL (l : List (List Int)) (i j : Nat) : List (List Int) := (l.set i (l.getD j [])).set j (l.getD i [])
def negL (l : List (List Int)) (i : Nat) : List (List Int) := l.set i ((l.getD i []).map fun x => -x)
def lessV (v : List Int) (k : Int) (w : List Int) : List Int := (v.zip w).map fun u => u.1 - k * u.2
def takeL (l : List (List Int)) (i : Nat) (k : Int) (j : Nat) : List (List Int) := l.set i (lessV (l.getD i []) k (l.getD j []))
def WS.swap (s : WS) (i j : Nat) : WS := ⟨swapL s.r i j, swapL s.t i j, swapL s.b i j⟩
def WS.turn (s : WS) (i : Nat) : WS := ⟨negL s.r i, negL s.t i, negL s.b i⟩
def WS.take (s : WS) (i : Nat) (k : Int) (j : Nat) : WS := ⟨takeL s.r i k j, takeL s.t i k j, takeL s.b j (-k) i⟩
abbrev cel (m : List (List Int)) : Option (List O) := some ((m.map lV).map O.dat)
abbrev wC (s : WS) : Mem := [cel s.r, cel s.t, cel s.b]
abbrev F0 : List (Str × Nat) := [("rows", 0), ("there", 1), ("back", 2)]
abbrev oW : O := .obj Ca F0
theorem lowW {n : Nat} {s : WS} : LowM n (wC s) := LowM.dat (LowM.dat (LowM.dat LowM.nil))
theorem mixW {s s' : WS} : Mix [0, 1, 2] (wC s) (wC s) (wC s') (wC s') := by
  refine ⟨rfl, by decide, rfl, fun i k h => ?_, fun k os h => ?_⟩
  · match i, h with
    | 0, h => cases h; exact congrArg (fun q => some (some q)) (ren_dat _).symm
    | 1, h => cases h; exact congrArg (fun q => some (some q)) (ren_dat _).symm
    | 2, h => cases h; exact congrArg (fun q => some (some q)) (ren_dat _).symm
    | n + 3, h => simp at h
  · match k, h with
    | 0, h => cases h; exact .inr ⟨0, _, rfl, .inl (by decide), rfl, (ren_dat _).symm⟩
    | 1, h => cases h; exact .inr ⟨1, _, rfl, .inl (by decide), rfl, (ren_dat _).symm⟩
    | 2, h => cases h; exact .inr ⟨2, _, rfl, .inl (by decide), rfl, (ren_dat _).symm⟩
    | n + 3, h => simp at h
theorem mixWn {s : WS} : Mix [] [] [] (wC s) (wC s) := by
  refine ⟨rfl, by decide, rfl, fun i k h => by simp at h, fun k os h => ?_⟩
  match k, h with
    | 0, h => cases h; exact .inr ⟨0, _, rfl, .inr (by decide), rfl, (ren_dat _).symm⟩
    | 1, h => cases h; exact .inr ⟨1, _, rfl, .inr (by decide), rfl, (ren_dat _).symm⟩
    | 2, h => cases h; exact .inr ⟨2, _, rfl, .inr (by decide), rfl, (ren_dat _).symm⟩
    | n + 3, h => simp at h
theorem EV.methW {C : Cc} {E : List O} {s s' : WS} {a e : Expr} {es : List Expr} {apos pos : Pos} {m : Str} {kf : Nat} {R : Rel} {ds : List D} {d : D} (F : MT C.g Ca m kf R) (ho : EV C a E (wC s) oW (wC s)) (ha : EA C (e :: es) E (wC s) (ds.map .dat) (wC s)) (cl : Cls C.g.K Ca) (hR : R (oW :: ds.map .dat) (wC s) (.dat d) (wC s')) (hl : F0.lookup m = none := by rfl) (hk : Nat.ble kf C.k = true := by rfl)
    (hst : ∀ env, starEach (e :: es) env = (false, eval e env) :: starEach es env := by intro _; rfl) (hpl : ∀ env, (backTo pos (starEach es env)).any (·.1) = false := by intro _; rfl)
    (ht : ∀ env, ∃ pl : Sem Bool, eval (.Call (.Attribute a m apos) (e :: es) [] pos) env = (do
      let ov ← eval a env
      standAt apos.atName
      let (f, first) ← holding [ov] (getMethod ov m pl)
      callWith pos f first (backTo pos (starEach (e :: es) env)) (backToKw pos (keywordEach [] env))) := by intro _; exact ⟨_, rfl⟩) :
    EV C (.Call (.Attribute a m apos) (e :: es) [] pos) E (wC s) (.dat d) (wC s') :=
  EV.meth (ι := [0, 1, 2]) F ho ha cl hR (by show _ = oW :: _; rw [ren_dat]) mixW hl hk hst hpl ht
theorem EV.callW {C : Cc} {E : List O} {s s' : WS} {e : Expr} {es : List Expr} {p pos : Pos} {x : Str} {kf : Nat} {R : Rel} {ds : List D} {d : D} (F : FN C.g x kf R) (ha : EA C (e :: es) E (wC s) (oW :: ds.map .dat) (wC s)) (hR : R (oW :: ds.map .dat) (wC s) (.dat d) (wC s')) (hk : Nat.ble kf C.k = true := by rfl)
    (hg : C.sc.names.lookup x = some .globalImplicit := by rfl) (hdb : (x == ("__debug__" : Str)) = false := by decide) (he : ∀ env, starEach (e :: es) env = (false, eval e env) :: starEach es env := by intro _; rfl) (hpl : ∀ env, (backTo pos (starEach es env)).any (·.1) = false := by intro _; rfl) :
    EV C (.Call (.Name x p) (e :: es) [] pos) E (wC s) (.dat d) (wC s') := EV.callG (ι := [0, 1, 2]) F ha hR (by show _ = oW :: _; rw [ren_dat]) mixW hk hg hdb he hpl
/-- attributes -/
theorem EV.rows {C : Cc} {E : List O} {M : Mem} {e : Expr} {pos : Pos} (W : Wd C.g) (h : EV C e E M oW M) (hb : ∀ env, attributeBase e "rows" env (eval e env) = eval e env := by intro _; rfl) : EV C (.Attribute e "rows" pos) E M (.adr 0) M := EV.fld h W.cls_Work W.no_rows rfl hb
theorem EV.there {C : Cc} {E : List O} {M : Mem} {e : Expr} {pos : Pos} (W : Wd C.g) (h : EV C e E M oW M) (hb : ∀ env, attributeBase e "there" env (eval e env) = eval e env := by intro _; rfl) : EV C (.Attribute e "there" pos) E M (.adr 1) M := EV.fld h W.cls_Work W.no_there rfl hb
theorem EV.back {C : Cc} {E : List O} {M : Mem} {e : Expr} {pos : Pos} (W : Wd C.g) (h : EV C e E M oW M) (hb : ∀ env, attributeBase e "back" env (eval e env) = eval e env := by intro _; rfl) : EV C (.Attribute e "back" pos) E M (.adr 2) M := EV.fld h W.cls_Work W.no_back rfl hb
theorem cel_at {m : List (List Int)} {i : Nat} (h : i < m.length) : atI ((m.map lV).map O.dat) (i : Int) = some (.dat (lV (m.getD i []))) := by
  refine atI_nat ?_
  rw [List.getElem?_map, List.getElem?_map, List.getElem?_eq_getElem h, List.getD_eq_getElem?_getD, List.getElem?_eq_getElem h]
  rfl
theorem cel_len {m : List (List Int)} : ((m.map lV).map O.dat).length = m.length := by rw [List.length_map, List.length_map]
theorem cel_ixN {m : List (List Int)} {i : Nat} (h : i < m.length) : ixN ((m.map lV).map O.dat).length (i : Int) = some i := by
  rw [cel_len]
  unfold ixN
  simp
  omega
theorem cel_set {m : List (List Int)} {i : Nat} {v : List Int} : (some (((m.map lV).map O.dat).set i (.dat (lV v))) : Option (List O)) = cel (m.set i v) := by
  show _ = some (((m.set i v).map lV).map O.dat)
  rw [List.map_set, List.map_set]
theorem ok_less_multiple (W : Wd g) : FN g "less_multiple" 1 (P3 fun d e f r => ∃ v k w, d = lV v ∧ e = .int k ∧ f = lV w ∧ v.length < 100000 ∧ (∀ y ∈ w, IntMulOk k y) ∧ r = lV (lessV v k w)) := by
  refine FN.mk3 W.t_less_multiple c_less_multiple (fun _ _ _ _ _ _ us hl => match us, hl with | [_, _, _], _ => rfl) (fun d e f r h => ?_)
  obtain ⟨v, k, w, rfl, rfl, rfl, hz, hm, rfl⟩ := h
  refine SB.one (ST.ret (EV.to (LC.ev (LC.lZ 3 4 (xs := v) (ys := w) (f1 := D.int) (f2 := D.int) (g := fun x y => .int (x - k * y)) (own := [("one", 3), ("other", 4)]) (by rfl) c_less_multiple.nd rfl (EV.nm 0) (EV.nm 2) (.inr ⟨rfl, rfl⟩) W.b.zip (Nat.le_refl _) OkM.refl hz
    (fun x _ y hy M => EV.sub (EV.nm 3) (EV.mul (EV.nm 1) (EV.nm 4) (hm y hy))))) ?_))
  show O.dat (.lst _) = O.dat (.lst _)
  unfold lessV
  rw [List.map_map]
  rfl
end
end
section
section
variable {g : Pg}
def swapR : Rel := fun os M o M' => ∃ (s : WS) (i j : Nat), i < s.r.length ∧ j < s.r.length ∧ s.t.length = s.r.length ∧ s.b.length = s.r.length ∧ os = [oW, .dat (.int (i : Int)), .dat (.int (j : Int))] ∧ M = wC s ∧ o = .dat .non ∧ M' = wC (s.swap i j)
theorem sw_none {a b c d x1 x2 y1 y2 : Expr} {p q u v r1 r2 : Pos} {k k2 : Nat} (env : Env) : swappedStores [.Tuple [.Subscript a b p, .Subscript c d q] k r1] (.Tuple [.Subscript x1 x2 u, .Subscript y1 y2 v] k2 r2) env = pure none := by
  unfold swappedStores
  cases h : env.blockKind <;> simp <;> rfl
/-- one list of three -/
theorem swap_one {n : Nat} {m : List (List Int)} {i j : Nat} {M M2 : Mem} {k : Nat} (hi : i < m.length) (hj : j < m.length) (hm : M[n]? = some (cel m)) (hM : M2 = M.set n (cel (swapL m i j))) :
    SB (mkCd g n_Work_swap s_Work_swap k none) (bodyOf ((defBody s_Work_swap).getD 0 (.Pass ⟨0, 0, 0, 0⟩))) [oW, .dat (.int (i : Int)), .dat (.int (j : Int)), .adr n] M (.nx [oW, .dat (.int (i : Int)), .dat (.int (j : Int)), .adr n] M2) := by
  have hn : n < M.length := (List.getElem?_eq_some_iff.mp hm).1
  refine SB.one (ST.to (ST.asg (EV.tup (ds := [lV (m.getD j []), lV (m.getD i [])]) (EA.cons (EV.ixC (EV.nm 3) (EV.nm 2) hm (cel_at hj)) (EA.cons (EV.ixC (EV.nm 3) (EV.nm 1) hm (cel_at hi)) EA.nil)) (by simp))
    (EG.tup (ds := [lV (m.getD j []), lV (m.getD i [])]) (EGs.cons (EG.sub (EV.nm 3) (EV.nm 1) hm (cel_ixN hi)) (EGs.cons (EG.sub (ps := (((m.set i (m.getD j [])).map lV).map O.dat)) (EV.nm 3) (EV.nm 2) (by rw [List.getElem?_set_self hn, cel_set]) (by rw [cel_len, List.length_set]; have := cel_ixN hj; rw [cel_len] at this; exact this)) EGs.nil))) (hw := fun env => sw_none env)) ?_)
  subst hM
  rw [cel_set, List.set_set, cel_set]
  rfl
theorem ok_swap (W : Wd g) : MT g Ca "swap" 1 swapR := by
  refine MT.mk W.m_swap c_Work_swap (fun _ _ _ _ _ _ us hl => match us, hl with | [_, _, _], _ => rfl) (fun os M o M' h => ?_) (fun os M o M' h => ?_)
  · obtain ⟨s, i, j, _, _, _, _, rfl, _⟩ := h
    rfl
  obtain ⟨s, i, j, hi, hj, ht, hb, rfl, rfl, rfl, rfl⟩ := h
  refine ⟨Nat.le_refl _, True.intro, lowW, .inr ⟨rfl, [oW, .dat (.int (i : Int)), .dat (.int (j : Int)), .no], [], ?_⟩⟩
  let MM : Nat → Mem := fun n => match n with
    | 0 => wC s
    | 1 => wC ⟨swapL s.r i j, s.t, s.b⟩
    | 2 => wC ⟨swapL s.r i j, swapL s.t i j, s.b⟩
    | _ => wC (s.swap i j)
  refine SB.one (ST.forN 3 (n := 3) (E_ := fun _ => [oW, .dat (.int (i : Int)), .dat (.int (j : Int)), .no]) (M_ := MM) (EI.disp (EA.cons (EV.rows W (EV.nm 0)) (EA.cons (EV.there W (EV.nm 0)) (EA.cons (EV.back W (EV.nm 0)) EA.nil))) (by decide)) Fg.refl rfl (fun _ _ => True.intro) c_Work_swap.nd (fun n hn => ?_))
  match n, hn with
  | 0, _ => exact ⟨_, Fg.cons (Fg.cons (Fg.cons (Fg.no Fg.nil))), swap_one hi hj rfl rfl⟩
  | 1, _ => exact ⟨_, Fg.cons (Fg.cons (Fg.cons (Fg.no Fg.nil))), swap_one (m := s.t) (by omega) (by omega) rfl rfl⟩
  | 2, _ => exact ⟨_, Fg.cons (Fg.cons (Fg.cons (Fg.no Fg.nil))), swap_one (m := s.b) (by omega) (by omega) rfl rfl⟩
def turnR : Rel := fun os M o M' => ∃ (s : WS) (i : Nat), i < s.r.length ∧ s.t.length = s.r.length ∧ s.b.length = s.r.length ∧ (∀ q ∈ s.r ++ (s.t ++ s.b), q.length < 100000) ∧ os = [oW, .dat (.int (i : Int))] ∧ M = wC s ∧ o = .dat .non ∧ M' = wC (s.turn i)
theorem turn_one {n : Nat} {m : List (List Int)} {i : Nat} {M M2 : Mem} {k : Nat} (hi : i < m.length) (hz : ∀ q ∈ m, q.length < 100000) (hm : M[n]? = some (cel m)) (hM : M2 = M.set n (cel (negL m i))) :
    SB (mkCd g n_Work_turn s_Work_turn k none) (bodyOf ((defBody s_Work_turn).getD 0 (.Pass ⟨0, 0, 0, 0⟩))) [oW, .dat (.int (i : Int)), .adr n, .no] M (.nx [oW, .dat (.int (i : Int)), .adr n, .no] M2) := by
  have hn : n < M.length := (List.getElem?_eq_some_iff.mp hm).1
  have hr : m.getD i [] ∈ m := mem_getD hi
  refine SB.one (ST.to (ST.asg (LC.ev (LC.lM 3 (xs := m.getD i []) (f := D.int) (g := fun x => .int (-x)) (own := [("one", 3)]) (by rfl) c_Work_turn.nd rfl (EV.ixC (EV.nm 2) (EV.nm 1) hm (cel_at hi)) rfl (Nat.le_refl _) OkM.refl (hz _ hr) (fun y _ M => EV.neg (EV.nm 3)))) (EG.sub (EV.nm 2) (EV.nm 1) hm (cel_ixN hi))) ?_)
  have e : (D.lst ((m.getD i []).map fun x => D.int (-x))) = lV ((m.getD i []).map fun x => -x) := by
    show D.lst _ = D.lst _
    rw [List.map_map]
    rfl
  rw [e, cel_set]
  subst hM
  rfl
theorem ok_turn (W : Wd g) : MT g Ca "turn" 1 turnR := by
  refine MT.mk W.m_turn c_Work_turn (fun _ _ _ _ _ _ us hl => match us, hl with | [_, _], _ => rfl) (fun os M o M' h => ?_) (fun os M o M' h => ?_)
  · obtain ⟨s, i, _, _, _, _, rfl, _⟩ := h
    rfl
  obtain ⟨s, i, hi, ht, hb, hz, rfl, rfl, rfl, rfl⟩ := h
  refine ⟨Nat.le_refl _, True.intro, lowW, .inr ⟨rfl, [oW, .dat (.int (i : Int)), .no, .no], [], ?_⟩⟩
  let MM : Nat → Mem := fun n => match n with
    | 0 => wC s
    | 1 => wC ⟨negL s.r i, s.t, s.b⟩
    | 2 => wC ⟨negL s.r i, negL s.t i, s.b⟩
    | _ => wC (s.turn i)
  refine SB.one (ST.forN 2 (n := 3) (E_ := fun _ => [oW, .dat (.int (i : Int)), .no, .no]) (M_ := MM) (EI.disp (EA.cons (EV.rows W (EV.nm 0)) (EA.cons (EV.there W (EV.nm 0)) (EA.cons (EV.back W (EV.nm 0)) EA.nil))) (by decide)) Fg.refl rfl (fun _ _ => True.intro) c_Work_turn.nd (fun n hn => ?_))
  match n, hn with
  | 0, _ => exact ⟨_, Fg.cons (Fg.cons (Fg.no (Fg.no Fg.nil))), turn_one (m := s.r) hi (fun q h => hz q (by simp [h])) rfl rfl⟩
  | 1, _ => exact ⟨_, Fg.cons (Fg.cons (Fg.no (Fg.no Fg.nil))), turn_one (m := s.t) (by omega) (fun q h => hz q (by simp [h])) rfl rfl⟩
  | 2, _ => exact ⟨_, Fg.cons (Fg.cons (Fg.no (Fg.no Fg.nil))), turn_one (m := s.b) (by omega) (fun q h => hz q (by simp [h])) rfl rfl⟩
/-- the products that a take asks for -/
def takeOk (s : WS) (i : Nat) (k : Int) (j : Nat) : Prop := (∀ y ∈ s.r.getD j [], IntMulOk k y) ∧ (∀ y ∈ s.t.getD j [], IntMulOk k y) ∧ (∀ y ∈ s.b.getD i [], IntMulOk (-k) y)
def takeR : Rel := fun os M o M' => ∃ (s : WS) (i : Nat) (k : Int) (j : Nat), i < s.r.length ∧ j < s.r.length ∧ s.t.length = s.r.length ∧ s.b.length = s.r.length ∧ (∀ q ∈ s.r ++ (s.t ++ s.b), q.length < 100000) ∧ takeOk s i k j ∧ os = [oW, .dat (.int (i : Int)), .dat (.int k), .dat (.int (j : Int))] ∧ M = wC s ∧ o = .dat .non ∧ M' = wC (s.take i k j)
theorem ok_take (W : Wd g) : MT g Ca "take" 2 takeR := by
  refine MT.mk W.m_take c_Work_take (fun _ _ _ _ _ _ us hl => match us, hl with | [_, _, _, _], _ => rfl) (fun os M o M' h => ?_) (fun os M o M' h => ?_)
  · obtain ⟨s, i, k, j, _, _, _, _, _, _, rfl, _⟩ := h
    rfl
  obtain ⟨s, i, k, j, hi, hj, ht, hb, hz, ⟨o1, o2, o3⟩, rfl, rfl, rfl, rfl⟩ := h
  refine ⟨Nat.le_refl _, True.intro, lowW, .inr ⟨rfl, [oW, .dat (.int (i : Int)), .dat (.int k), .dat (.int (j : Int))], [], ?_⟩⟩
  have z1 : ∀ {m : List (List Int)} {i : Nat}, i < m.length → (∀ q ∈ m, q ∈ s.r ++ (s.t ++ s.b)) → (m.getD i []).length < 100000 := fun {m i} h q => hz _ (q _ (mem_getD h))
  refine SB.cons (E1 := [oW, .dat (.int (i : Int)), .dat (.int k), .dat (.int (j : Int))]) (M1 := wC ⟨takeL s.r i k j, s.t, s.b⟩) (ST.to (ST.asg (EV.c3 (ok_less_multiple W) (EV.ixC (EV.rows W (EV.nm 0)) (EV.nm 1) rfl (cel_at hi)) (EV.nm 2) (EV.ixC (EV.rows W (EV.nm 0)) (EV.nm 3) rfl (cel_at hj)) ⟨_, _, _, rfl, rfl, rfl, z1 hi (fun q h => by simp [h]), o1, rfl⟩) (EG.sub (EV.rows W (EV.nm 0)) (EV.nm 1) rfl (cel_ixN hi))) (by rw [cel_set]; rfl)) ?_
  refine SB.cons (E1 := [oW, .dat (.int (i : Int)), .dat (.int k), .dat (.int (j : Int))]) (M1 := wC ⟨takeL s.r i k j, takeL s.t i k j, s.b⟩) (ST.to (ST.asg (EV.c3 (ok_less_multiple W) (EV.ixC (EV.there W (EV.nm 0)) (EV.nm 1) rfl (cel_at (ht ▸ hi))) (EV.nm 2) (EV.ixC (EV.there W (EV.nm 0)) (EV.nm 3) rfl (cel_at (ht ▸ hj))) ⟨_, _, _, rfl, rfl, rfl, z1 (ht ▸ hi) (fun q h => by simp [h]), o2, rfl⟩) (EG.sub (EV.there W (EV.nm 0)) (EV.nm 1) rfl (cel_ixN (ht ▸ hi)))) (by rw [cel_set]; rfl)) ?_
  exact SB.one (ST.to (ST.asg (EV.c3 (ok_less_multiple W) (EV.ixC (EV.back W (EV.nm 0)) (EV.nm 3) rfl (cel_at (hb ▸ hj))) (EV.neg (EV.nm 2)) (EV.ixC (EV.back W (EV.nm 0)) (EV.nm 1) rfl (cel_at (hb ▸ hi))) ⟨_, _, _, rfl, rfl, rfl, z1 (hb ▸ hj) (fun q h => by simp [h]), o3, rfl⟩) (EG.sub (EV.back W (EV.nm 0)) (EV.nm 3) rfl (cel_ixN (hb ▸ hj)))) (by rw [cel_set]; rfl))
end
end
section
section
variable {C : Cc} {E : List O} {M M1 : Mem} {iter elt c : Expr} {p : Pos} {x : Str} {d : D} {scope : Scope} {own : List (Str × Nat)}
theorem LC.lMC {α : Type} (jx : Nat) {M1 : Mem} {xs : List α} {f g : α → D} (ok : blkC C.N C.sc scope own = true) (nd : C.N.Nodup) (ho : own.map (·.2) = [jx]) (h : EV C iter E M (.dat d) M1) (hd : seqD d = some (xs.map f)) (hz : xs.length < 100000)
    (step : ∀ y ∈ xs, ∀ M, EV (C.blk scope) elt ((wipeE E [jx]).set jx (.dat (f y))) M (.dat (g y)) M) (hi : C.N[jx]? = some x := by rfl) (hx : Loc (C.blk scope).sc x := by first | exact Or.inl rfl | exact Or.inr rfl) (hf' : (C.blk scope).fn x = true ∨ (C.blk scope).sc.names.lookup x = some .local := by first | exact .inl rfl | exact .inr rfl)
    (hf : ∀ env x, foldedSetIterable iter env x = pure x := by intro _ _; rfl) : LC C elt (.Name x p) iter [] scope own E M (.adr M1.length) (M1 ++ [some ((xs.map g).map .dat)]) := by
  have hlen : (xs.map f).length = xs.length := List.length_map _
  have key := LC.lPC (tg := .Name x p) (elt := elt) (ifs := []) (scope := scope) (own := own) (n := (xs.map f).length) (v := fun i => (xs.map g).getD i .non) (f := fun _ => true) ok nd (EI.seq h hd) (fun _ => True.intro) (by omega) (fun i hi' => by
    rw [hlen] at hi'
    refine ⟨_, fun M => EGv.nm jx nd (by rw [ho]; simp) hi hx hf', fun M => EP.nil, fun _ M => ?_⟩
    rw [ho, atO_map hi']
    have e : (xs.map g).getD i .non = g xs[i] := by
      rw [List.getD_eq_getElem?_getD, List.getElem?_map, List.getElem?_eq_getElem hi']
      rfl
    rw [e]
    exact step _ (List.getElem_mem hi') M) hf
  have e2 : ((List.range (xs.map f).length).filter fun _ => true).map (fun i => (xs.map g).getD i D.non) = xs.map g := by
    rw [List.filter_eq_self.mpr (fun _ _ => rfl), hlen, ← List.length_map g]
    exact range_getD _ _
  rw [e2] at key
  exact key
/-- over a cell of data -/
theorem LC.lMc {α : Type} (jx : Nat) {nc : Nat} {xs : List α} {f g : α → D} (ok : blkC C.N C.sc scope own = true) (nd : C.N.Nodup) (ho : own.map (·.2) = [jx]) (h : EV C iter E M (.adr nc) M) (hm : M[nc]? = some (some ((xs.map f).map .dat))) (hz : xs.length < 100000)
    (step : ∀ y ∈ xs, ∀ M, EV (C.blk scope) elt ((wipeE E [jx]).set jx (.dat (f y))) M (.dat (g y)) M) (hi : C.N[jx]? = some x := by rfl) (hx : Loc (C.blk scope).sc x := by first | exact Or.inl rfl | exact Or.inr rfl) (hf' : (C.blk scope).fn x = true ∨ (C.blk scope).sc.names.lookup x = some .local := by first | exact .inl rfl | exact .inr rfl)
    (hf : ∀ env x, foldedSetIterable iter env x = pure x := by intro _ _; rfl) : LC C elt (.Name x p) iter [] scope own E M (.dat (.lst (xs.map g))) M := by
  have hlen : ((xs.map f).map O.dat).length = xs.length := by rw [List.length_map, List.length_map]
  have hn : nc < M.length := (List.getElem?_eq_some_iff.mp hm).1
  have key := LC.lPF (tg := .Name x p) (elt := elt) (ifs := []) (scope := scope) (own := own) (n := ((xs.map f).map O.dat).length) (v := fun i => (xs.map g).getD i .non) (f := fun _ => true) ok nd (EI.cell h hm) (fun c => by rw [List.getElem?_append_left hn]; exact hm) (by omega) (Nat.le_refl _) OkM.refl (fun i hi' => by
    rw [hlen] at hi'
    refine ⟨_, fun M => EGv.nm jx nd (by rw [ho]; simp) hi hx hf', fun M => EP.nil, fun _ M => ?_⟩
    have e0 : ((xs.map f).map O.dat).getD i .no = .dat (f xs[i]) := by
      rw [List.getD_eq_getElem?_getD, List.getElem?_map, List.getElem?_map, List.getElem?_eq_getElem hi']
      rfl
    rw [ho, e0]
    have e : (xs.map g).getD i .non = g xs[i] := by
      rw [List.getD_eq_getElem?_getD, List.getElem?_map, List.getElem?_eq_getElem hi']
      rfl
    rw [e]
    exact step _ (List.getElem_mem hi') M) hf
  have e2 : ((List.range ((xs.map f).map O.dat).length).filter fun _ => true).map (fun i => (xs.map g).getD i D.non) = xs.map g := by
    rw [List.filter_eq_self.mpr (fun _ _ => rfl), hlen, ← List.length_map g]
    exact range_getD _ _
  rw [e2] at key
  exact key
end
section
variable {g : Pg}
def wsOf (a : List (List Int)) : WS := ⟨a, unitM a.length, unitM a.length⟩
def initR : RelI := fun os M fs M' => ∃ a : List (List Int), a.length < 100000 ∧ os = [.dat (tM a)] ∧ M = [] ∧ fs = F0 ∧ M' = wC (wsOf a)
theorem unit_len {n : Nat} : (unitM n).length = n := by unfold unitM; rw [List.length_map, List.length_range]
theorem ok_Work (W : Wd g) : MK g "Work" Ca 2 initR := by
  obtain ⟨f, fd, F, hM⟩ := W.in_Work
  refine MK.mk F hM W.mg_Work c_Work_init (fun _ _ _ _ _ _ us hl => match us, hl with | [_, _], _ => rfl) (by decide) (fun os M fs M' h => ?_) (fun os M fs M' h => ?_)
  · obtain ⟨a, _, rfl, _⟩ := h
    rfl
  obtain ⟨a, hz, rfl, rfl, rfl, rfl⟩ := h
  have cp : ∀ {m : List (List Int)}, (some ((m.map fun r => lV r).map O.dat) : Option (List O)) = cel m := fun {m} => rfl
  refine DoI.cons (k := 0) (M1 := [cel a]) (LC.ev (LC.lMC (M1 := []) 2 (xs := a) (f := tV) (g := lV) (own := [("row", 2)]) (by rfl) c_Work_init.nd rfl (EV.nm 1) rfl hz (fun y _ M => EV.list (EV.nm 2) rfl W.b.list))) ?_ W.cls_Work W.no_rows (by decide)
  refine DoI.cons (k := 1) (M1 := [cel a, cel (unitM a.length)]) (LC.ev (LC.lMC (M1 := [cel a]) 2 (xs := unitM a.length) (f := tV) (g := lV) (own := [("row", 2)]) (by rfl) c_Work_init.nd rfl (EV.c1 (ok_unit W) (EV.len (EV.nm 1) len_tM W.b.len) ⟨a.length, hz, rfl, rfl⟩) rfl (by rw [unit_len]; exact hz) (fun y _ M => EV.list (EV.nm 2) rfl W.b.list))) ?_ W.cls_Work W.no_there (by decide)
  refine DoI.cons (k := 2) (M1 := wC (wsOf a)) (LC.ev (LC.lMC (M1 := [cel a, cel (unitM a.length)]) 2 (xs := unitM a.length) (f := tV) (g := lV) (own := [("row", 2)]) (by rfl) c_Work_init.nd rfl (EV.c1 (ok_unit W) (EV.len (EV.nm 1) len_tM W.b.len) ⟨a.length, hz, rfl, rfl⟩) rfl (by rw [unit_len]; exact hz) (fun y _ M => EV.list (EV.nm 2) rfl W.b.list))) DoI.nil W.cls_Work W.no_back (by decide)
def waysR : Rel := fun os M o M' => ∃ s : WS, s.r.length < 100000 ∧ s.t.length < 100000 ∧ s.b.length < 100000 ∧ s.b ≠ [] ∧ (∀ q ∈ s.b, q.length = wd s.b) ∧ wd s.b < 100000 ∧ os = [oW] ∧ M = wC s ∧ o = .dat (.tup [tM s.r, tM s.t, tM (flip s.b)]) ∧ M' = wC s
theorem tM_lst {m : List (List Int)} : D.tup (m.map fun r => tV r) = tM m := rfl
theorem ok_ways (W : Wd g) : MT g Ca "ways" 2 waysR := by
  refine MT.mk W.m_ways c_Work_ways (fun _ _ _ _ _ _ us hl => match us, hl with | [_], _ => rfl) (fun os M o M' h => ?_) (fun os M o M' h => ?_)
  · obtain ⟨s, _, _, _, _, _, _, rfl, _⟩ := h
    rfl
  obtain ⟨s, z1, z2, z3, hne, hr, hw, rfl, rfl, rfl, rfl⟩ := h
  refine ⟨Nat.le_refl _, True.intro, lowW, .inl ⟨[], ?_⟩⟩
  refine SB.cons (E1 := [oW, .dat (tM s.t), .no, .no]) (M1 := wC s) (ST.set 1 (EV.tuple (LC.ev (LC.lMc 3 (nc := 1) (xs := s.t) (f := lV) (g := tV) (own := [("row", 3)]) (by rfl) c_Work_ways.nd rfl (EV.there W (EV.nm 0)) rfl z2 (fun y _ M => EV.tuple (EV.nm 3) rfl W.b.tuple))) rfl W.b.tuple) c_Work_ways.nd) ?_
  refine SB.cons (E1 := [oW, .dat (tM s.t), .dat (tM (flip s.b)), .no]) (M1 := wC s) (ST.set 2 (EV.c1 (ok_flipped W) (EV.tuple (LC.ev (LC.lMc 3 (nc := 2) (xs := s.b) (f := lV) (g := tV) (own := [("row", 3)]) (by rfl) c_Work_ways.nd rfl (EV.back W (EV.nm 0)) rfl z3 (fun y _ M => EV.tuple (EV.nm 3) rfl W.b.tuple))) rfl W.b.tuple) ⟨s.b, rfl, hne, hr, z3, hw, rfl⟩) c_Work_ways.nd) ?_
  exact SB.one (ST.ret (EV.tup (ds := [tM s.r, tM s.t, tM (flip s.b)]) (EA.cons (EV.tuple (LC.ev (LC.lMc 3 (nc := 0) (xs := s.r) (f := lV) (g := tV) (own := [("row", 3)]) (by rfl) c_Work_ways.nd rfl (EV.rows W (EV.nm 0)) rfl z1 (fun y _ M => EV.tuple (EV.nm 3) rfl W.b.tuple))) rfl W.b.tuple) (EA.cons (EV.nm 1) (EA.cons (EV.nm 2) EA.nil))) (by simp)))
theorem methW0 {C : Cc} {E : List O} {s : WS} {a : Expr} {apos pos : Pos} {m : Str} {kf : Nat} {R : Rel} {d : D} (F : MT C.g Ca m kf R) (ho : EV C a E (wC s) oW (wC s)) (cl : Cls C.g.K Ca) (hR : R [oW] (wC s) (.dat d) (wC s)) (hl : F0.lookup m = none := by rfl) (hk : Nat.ble kf C.k = true := by rfl)
    (ht : ∀ env, ∃ pl : Sem Bool, eval (.Call (.Attribute a m apos) [] [] pos) env = (do
      let ov ← eval a env
      standAt apos.atName
      let (f, first) ← holding [ov] (getMethod ov m pl)
      callWith pos f first (backTo pos (starEach [] env)) (backToKw pos (keywordEach [] env))) := by intro _; exact ⟨_, rfl⟩) :
    EV C (.Call (.Attribute a m apos) [] [] pos) E (wC s) (.dat d) (wC s) := by
  obtain ⟨f, fd, ps, hm, F, hb⟩ := F
  refine EV.mk (t := tMeth Ca m (spR R) [] E0 (UE C a) tNil) (fun X hX => ?_) fun I H adr σ Q st q => ?_
  · obtain ⟨pl, hpl'⟩ := ht X.env
    exact pe_meth0 (pl := pl) (C := Ca) (k := kf) (f := f) (fd := fd) (ps := ps) (ue hX a) (by rw [hX.K]; exact cl) (by rw [hX.K]; exact hm) (by rw [hX.P, hX.w, hX.K, hX.mg, hX.base]; exact F) (hX.room.mono (Nat.le_of_ble_eq_true hk)) (by rw [hX.K]; exact hb) .nil pass0 hpl'
  · refine ho I H adr σ _ st fun v I1 H1 adr1 s1 g1 v1 => ?_
    have v1' := v1
    obtain ⟨p, dx, gs, rfl, h2, h3⟩ := v1
    refine ⟨p, dx, gs, rfl, s1.ex _ _ h2, fpNone h3 hl, ?_⟩
    obtain ⟨adr0, sto0, vs0, back⟩ := call_mix s1 (mixW (s := s) (s' := s))
    have v3 : Vs I1 adr1 [oW] [.ref p] := .cons v1' .nil
    show spR R [.ref p] H1 Q E0
    refine ⟨I1, adr0, [oW], wC s, .dat d, wC s, hR, s1.ex, sto0, vs0 [oW] _ v3, fun z I3 H3 adr0' ex3 sto3 g3 v4 => ?_⟩
    obtain ⟨adr3, s3, g4, dr⟩ := back I3 H3 adr0' ex3 sto3 g3
    exact q z I3 H3 adr3 s3 (g1.trans g4) (dr (.dat d) _ v4)
end
end
section
/-! ### clear_column -/
section
variable {g : Pg}
def ent (s : WS) (i c : Nat) : Int := (s.r.getD i []).getD c 0
structure Wf (s : WS) (n w : Nat) : Prop where
  r : s.r.length = n
  t : s.t.length = n
  b : s.b.length = n
  rw : ∀ q ∈ s.r, q.length = w
  tw : ∀ q ∈ s.t, q.length = n
  bw : ∀ q ∈ s.b, q.length = n
  n0 : 1 ≤ n
  n1 : n ≤ 1000
  w1 : w ≤ 1000
theorem Wf.small {s : WS} {n w : Nat} (h : Wf s n w) : ∀ q ∈ s.r ++ (s.t ++ s.b), q.length < 100000 := fun q hq => by
  have h1 := h.n1
  have h2 := h.w1
  simp only [List.mem_append] at hq
  rcases hq with hq | hq | hq
  · rw [h.rw q hq]; omega
  · rw [h.tw q hq]; omega
  · rw [h.bw q hq]; omega
theorem lessV_len {v w : List Int} {k : Int} (h : v.length = w.length) : (lessV v k w).length = v.length := by
  unfold lessV
  rw [List.length_map, List.length_zip]
  omega
theorem mem_set' {α : Type} {l : List α} {i : Nat} {a x : α} (h : x ∈ l.set i a) : x = a ∨ x ∈ l := by
  rcases List.mem_or_eq_of_mem_set h with h | h
  · exact .inr h
  · exact .inl h
theorem Wf.swap {s : WS} {n w i j : Nat} (h : Wf s n w) (hi : i < n) (hj : j < n) : Wf (s.swap i j) n w := by
  have key : ∀ {l : List (List Int)} {u : Nat}, l.length = n → (∀ q ∈ l, q.length = u) → (swapL l i j).length = n ∧ ∀ q ∈ swapL l i j, q.length = u := fun {l u} hl hq => by
    unfold swapL
    refine ⟨by rw [List.length_set, List.length_set]; exact hl, fun q hq' => ?_⟩
    rcases mem_set' hq' with rfl | hq'
    · exact hq _ (mem_getD (by omega))
    · rcases mem_set' hq' with rfl | hq'
      · exact hq _ (mem_getD (by omega))
      · exact hq _ hq'
  exact ⟨(key h.r h.rw).1, (key h.t h.tw).1, (key h.b h.bw).1, (key h.r h.rw).2, (key h.t h.tw).2, (key h.b h.bw).2, h.n0, h.n1, h.w1⟩
theorem Wf.turn {s : WS} {n w i : Nat} (h : Wf s n w) (hi : i < n) : Wf (s.turn i) n w := by
  have key : ∀ {l : List (List Int)} {u : Nat}, l.length = n → (∀ q ∈ l, q.length = u) → (negL l i).length = n ∧ ∀ q ∈ negL l i, q.length = u := fun {l u} hl hq => by
    unfold negL
    refine ⟨by rw [List.length_set]; exact hl, fun q hq' => ?_⟩
    rcases mem_set' hq' with rfl | hq'
    · rw [List.length_map]
      exact hq _ (mem_getD (by omega))
    · exact hq _ hq'
  exact ⟨(key h.r h.rw).1, (key h.t h.tw).1, (key h.b h.bw).1, (key h.r h.rw).2, (key h.t h.tw).2, (key h.b h.bw).2, h.n0, h.n1, h.w1⟩
theorem Wf.take {s : WS} {n w i j : Nat} {k : Int} (h : Wf s n w) (hi : i < n) (hj : j < n) : Wf (s.take i k j) n w := by
  have key : ∀ {l : List (List Int)} {u : Nat} {i j : Nat} {k : Int}, i < n → j < n → l.length = n → (∀ q ∈ l, q.length = u) → (takeL l i k j).length = n ∧ ∀ q ∈ takeL l i k j, q.length = u := fun {l u i j k} hi hj hl hq => by
    unfold takeL
    refine ⟨by rw [List.length_set]; exact hl, fun q hq' => ?_⟩
    have e1 := hq _ (mem_getD (a0 := []) (show i < l.length by omega))
    have e2 := hq _ (mem_getD (a0 := []) (show j < l.length by omega))
    rcases mem_set' hq' with rfl | hq'
    · rw [lessV_len (by rw [e1, e2])]
      exact e1
    · exact hq _ hq'
  exact ⟨(key hi hj h.r h.rw).1, (key hi hj h.t h.tw).1, (key hj hi h.b h.bw).1, (key hi hj h.r h.rw).2, (key hi hj h.t h.tw).2, (key hj hi h.b h.bw).2, h.n0, h.n1, h.w1⟩
/-- the places from lo on whose number is not 0 -/
def bl (s : WS) (lo c : Nat) : List Nat := ((List.range (s.r.length - lo)).filter fun i => !decide (ent s (lo + i) c = 0)).map fun i => lo + i
def bestI (ka kb : Nat → Int) : Nat → Nat
  | 0 => 0
  | n + 1 => if kLess ka kb (n + 1) (bestI ka kb n) then n + 1 else bestI ka kb n
theorem bestI_le {ka kb : Nat → Int} : ∀ n, bestI ka kb n ≤ n
  | 0 => Nat.le_refl _
  | n + 1 => by
    unfold bestI
    split
    · exact Nat.le_refl _
    · exact Nat.le_succ_of_le (bestI_le n)
theorem bestI_ok {ka kb : Nat → Int} : ∀ n, kBest ka kb (n + 1) (bestI ka kb n)
  | 0 => fun j hj => by
    have e : j = 0 := by omega
    subst e
    exact ⟨(show ¬ kLess ka kb 0 0 by unfold kLess; omega), fun h => by simp [bestI] at h⟩
  | n + 1 => fun j hj => by
    have ih := bestI_ok (ka := ka) (kb := kb) n
    have hle := bestI_le (ka := ka) (kb := kb) n
    unfold bestI
    by_cases hc : kLess ka kb (n + 1) (bestI ka kb n)
    · rw [if_pos hc]
      by_cases e : j = n + 1
      · subst e
        exact ⟨by unfold kLess; omega, fun h => by omega⟩
      · have h1 := ih j (by omega)
        unfold kLess at *
        omega
    · rw [if_neg hc]
      by_cases e : j = n + 1
      · subst e
        exact ⟨hc, fun h => by omega⟩
      · exact ih j (by omega)
def bestAt (s : WS) (c : Nat) (l : List Nat) : Nat := l.getD (bestI (fun j => ((ent s (l.getD j 0) c).natAbs : Int)) (fun j => (l.getD j 0 : Int)) (l.length - 1)) 0
def swapIf (s : WS) (best top : Nat) : WS := if best = top then s else s.swap best top
def turnIf (s : WS) (top c : Nat) : WS := if ent s top c < 0 then s.turn top else s
def prep (s : WS) (top c best : Nat) : WS := turnIf (swapIf s best top) top c
def sub1 (top c : Nat) (s : WS) (at_ : Nat) : WS := s.take at_ ((ent s at_ c).fdiv (ent s top c)) top
def subs (s : WS) (top c lo : Nat) : Nat → WS
  | 0 => s
  | k + 1 => sub1 top c (subs s top c lo k) (lo + k)
def rnd (s : WS) (top c : Nat) (l : List Nat) : WS := subs (prep s top c (bestAt s c l)) top c (top + 1) (s.r.length - (top + 1))
def itr (s : WS) (top c : Nat) : Nat → WS × List Nat
  | 0 => (s, bl s top c)
  | i + 1 => let u := itr s top c i; let s' := rnd u.1 top c u.2; (s', bl s' (top + 1) c)
/-- all products of a row of takes are small enough -/
def subsOk (s : WS) (top c lo n : Nat) : Prop := ∀ k, k < n → takeOk (subs s top c lo k) (lo + k) ((ent (subs s top c lo k) (lo + k) c).fdiv (ent (subs s top c lo k) top c)) top
theorem bl_mem {s : WS} {lo c at_ : Nat} : at_ ∈ bl s lo c ↔ lo ≤ at_ ∧ at_ < s.r.length ∧ ent s at_ c ≠ 0 := by
  unfold bl
  simp only [List.mem_map, List.mem_filter, List.mem_range, Bool.not_eq_true', decide_eq_false_iff_not]
  constructor
  · rintro ⟨i, ⟨h1, h2⟩, rfl⟩
    exact ⟨by omega, by omega, h2⟩
  · rintro ⟨h1, h2, h3⟩
    refine ⟨at_ - lo, ⟨by omega, ?_⟩, by omega⟩
    rw [show lo + (at_ - lo) = at_ by omega]
    exact h3
theorem bestAt_mem {s : WS} {c : Nat} {l : List Nat} (h : l ≠ []) : bestAt s c l ∈ l := by
  unfold bestAt
  refine mem_getD (Nat.lt_of_le_of_lt (bestI_le _) ?_)
  cases l with
  | nil => exact absurd rfl h
  | cons a r => simp
theorem wf_swapIf {s : WS} {n w top best : Nat} (h : Wf s n w) (ht : top < n) (hb : best < n) : Wf (swapIf s best top) n w := by
  unfold swapIf
  split
  · exact h
  · exact h.swap hb ht
theorem wf_turnIf {s : WS} {n w top c : Nat} (h : Wf s n w) (ht : top < n) : Wf (turnIf s top c) n w := by
  unfold turnIf
  split
  · exact h.turn ht
  · exact h
theorem wf_prep {s : WS} {n w top c best : Nat} (h : Wf s n w) (ht : top < n) (hb : best < n) : Wf (prep s top c best) n w := wf_turnIf (wf_swapIf h ht hb) ht
theorem wf_subs {s : WS} {n w top c lo : Nat} (h : Wf s n w) (ht : top < n) : ∀ k, lo + k ≤ n → Wf (subs s top c lo k) n w
  | 0, _ => h
  | k + 1, hk => (wf_subs h ht k (by omega)).take (by omega) ht
theorem ev_ent {C : Cc} {E : List O} {M : Mem} {s : WS} {n w : Nat} {a b c : Expr} {p1 p2 p3 : Pos} {i j : Nat} (W : Wd C.g) (h : Wf s n w) (hM : M[0]? = some (cel s.r)) (ha : EV C a E M oW M) (hb : EV C b E M (.dat (.int (i : Int))) M) (hc : EV C c E M (.dat (.int (j : Int))) M) (hi : i < n) (hj : j < w)
    (ht : ∀ env, attributeBase a "rows" env (eval a env) = eval a env := by intro _; rfl) (h1 : PlainIx b := by exact fun _ _ => rfl) (h2 : PlainIx c := by exact fun _ _ => rfl) :
    EV C (.Subscript (.Subscript (.Attribute a "rows" p1) b p2) c p3) E M (.dat (.int (ent s i j))) M :=
  EV.ix (EV.ixC (EV.rows W ha ht) hb hM (cel_at (by rw [h.r]; exact hi)) h1) hc (ix_lV (by rw [h.rw _ (mem_getD (by rw [h.r]; exact hi))]; exact hj)) h2
end
end
section
section
variable {C : Cc} {E : List O} {M M1 : Mem} {iter elt c tg : Expr} {ifs : List Expr} {p : Pos} {x : Str} {d : D} {scope : Scope} {own : List (Str × Nat)}
/-- pure elements that look at the cells -/
theorem LC.lPG {n : Nat} {it : Nat → O} {inv : Mem → Prop} {v : Nat → D} {f : Nat → Bool} (ok : blkC C.N C.sc scope own = true) (nd : C.N.Nodup) (hs : EI C tg iter E M n it M1 inv) (hinv : ∀ c, inv (M1 ++ [c])) (hn : n < 100000) (hl : M.length ≤ M1.length) (hok : OkM M M1)
    (step : ∀ i, i < n → ∃ Ex, (∀ M, EGv (C.blk scope) (own.map (·.2)) tg (it i) (wipeE E (own.map (·.2))) M Ex M) ∧ (∀ c, EP (C.blk scope) ifs Ex (M1 ++ [c]) (f i) (M1 ++ [c])) ∧ (f i = true → ∀ c, EV (C.blk scope) elt Ex (M1 ++ [c]) (.dat (v i)) (M1 ++ [c])))
    (hf : ∀ env x, foldedSetIterable iter env x = pure x := by intro _ _; rfl) : LC C elt tg iter ifs scope own E M (.dat (.lst (((List.range n).filter f).map v))) M1 := by
  have key : LC C elt tg iter ifs scope own E M (.adr M1.length) (M1 ++ [some ((((List.range n).filter f).map v).map .dat)]) := by
    refine LC.gen (A := fun i => M1 ++ [some ((((List.range i).filter f).map v).map .dat)]) (acc := fun i => (((List.range i).filter f).map v).map .dat) ok nd hs rfl rfl (fun i _ => hinv _) (fun i hi => ?_) hf
    obtain ⟨Ex, h1, h2, h3⟩ := step i hi
    refine ⟨Ex, _, f i, _, h1 _, h2 _, ?_⟩
    have e0 : (List.range (i + 1)).filter f = (List.range i).filter f ++ if f i = true then [i] else [] := by
      rw [List.range_succ, List.filter_append, List.filter_cons]
      split <;> rfl
    cases hb : f i with
    | true =>
      refine .inl ⟨rfl, .dat (v i), _, h3 hb _, getE_append, ?_, ?_, ?_⟩
      · rw [List.length_map, List.length_map]
        have := List.length_filter_le f (List.range i)
        rw [List.length_range] at this
        omega
      · rw [hb] at e0
        show M1 ++ [some ((((List.range (i + 1)).filter f).map v).map O.dat)] = _
        rw [set_append, e0, List.map_append, List.map_append]
        rfl
      · rw [hb] at e0
        show (((List.range (i + 1)).filter f).map v).map O.dat = _
        rw [e0, List.map_append, List.map_append]
        rfl
    | false =>
      rw [hb] at e0
      have e : (((List.range (i + 1)).filter f).map v).map O.dat = (((List.range i).filter f).map v).map O.dat := by
        rw [e0]
        simp
      refine .inr ⟨rfl, ?_, ?_⟩
      · show M1 ++ [some ((((List.range (i + 1)).filter f).map v).map O.dat)] = _
        rw [e]
      · exact e
  exact LC.froz key fun h => Ev.froz h rfl hl hok
end
section
variable {g : Pg}
def lN (l : List Nat) : D := .lst (l.map fun (k : Nat) => .int (k : Int))
theorem lN_bl {s : WS} {lo c : Nat} : lN (bl s lo c) = .lst (((List.range (s.r.length - lo)).filter fun i => !decide (ent s (lo + i) c = 0)).map fun i => .int (((lo + i : Nat)) : Int)) := by
  unfold lN bl
  rw [List.map_map]
  rfl
def clearOk (s : WS) (n w top c m : Nat) : Prop := Wf s n w ∧ top < n ∧ c < w ∧ (itr s top c m).2 = [] ∧ ∀ i, i < m → (itr s top c i).2 ≠ [] ∧ subsOk (prep (itr s top c i).1 top c (bestAt (itr s top c i).1 c (itr s top c i).2)) top c (top + 1) (n - (top + 1))
def clearR : Rel := fun os M o M' => ∃ (s : WS) (n w top c m : Nat), clearOk s n w top c m ∧ os = [oW, .dat (.int (top : Int)), .dat (.int (c : Int))] ∧ M = wC s ∧ o = .dat .non ∧ M' = wC (itr s top c m).1
theorem itr_mem {s : WS} {top c : Nat} : ∀ i, ∀ a ∈ (itr s top c i).2, top ≤ a ∧ a < (itr s top c i).1.r.length ∧ ent (itr s top c i).1 a c ≠ 0
  | 0, a, h => bl_mem.mp h
  | i + 1, a, h => by
    obtain ⟨h1, h2, h3⟩ := bl_mem.mp h
    exact ⟨by omega, h2, h3⟩
theorem wf_itr {s : WS} {n w top c : Nat} (h : Wf s n w) (ht : top < n) : ∀ i, (∀ j, j < i → (itr s top c j).2 ≠ []) → Wf (itr s top c i).1 n w
  | 0, _ => h
  | i + 1, hj => by
    have ih := wf_itr h ht i fun j hj' => hj j (by omega)
    have hb := itr_mem i _ (bestAt_mem (c := c) (s := (itr s top c i).1) (hj i (by omega)))
    rw [ih.r] at hb
    show Wf (rnd _ top c _) n w
    unfold rnd
    rw [ih.r]
    exact wf_subs (wf_prep ih ht hb.2.1) ht _ (by omega)
/-- the pivot is there -/
theorem ent_swap {s : WS} {n w i j c : Nat} (h : Wf s n w) (hi : i < n) (hj : j < n) : ent (s.swap i j) j c = ent s i c := by
  unfold ent WS.swap swapL
  show (List.getD _ j []).getD c 0 = _
  congr 1
  rw [List.getD_eq_getElem?_getD, List.getElem?_set_self (by rw [List.length_set, h.r]; exact hj)]
  rfl
theorem ent_prep0 {s : WS} {n w top best c : Nat} (h : Wf s n w) (ht : top < n) (hb : best < n) : ent (swapIf s best top) top c = ent s best c := by
  unfold swapIf
  split
  · rename_i e; rw [e]
  · exact ent_swap h hb ht
theorem getD_map_neg {l : List Int} {c : Nat} : (l.map fun x => -x).getD c 0 = -(l.getD c 0) := by
  rw [List.getD_eq_getElem?_getD, List.getD_eq_getElem?_getD, List.getElem?_map]
  cases l[c]? <;> rfl
theorem ent_turn {s : WS} {n w i c : Nat} (h : Wf s n w) (hi : i < n) : ent (s.turn i) i c = -ent s i c := by
  unfold ent WS.turn negL
  show (List.getD _ i []).getD c 0 = _
  rw [← getD_map_neg]
  congr 1
  rw [List.getD_eq_getElem?_getD, List.getElem?_set_self (by rw [h.r]; exact hi)]
  rfl
theorem ent_prep {s : WS} {n w top best c : Nat} (h : Wf s n w) (ht : top < n) (hb : best < n) : ent (prep s top c best) top c = ((ent s best c).natAbs : Int) := by
  unfold prep turnIf
  have e := ent_prep0 (c := c) h ht hb
  split
  · rename_i hn
    rw [ent_turn (wf_swapIf h ht hb) ht]
    omega
  · omega
theorem ent_take {s : WS} {n w i j c a : Nat} {k : Int} (h : Wf s n w) (hi : i < n) (hj : j < n) (ha : a ≠ i) : ent (s.take i k j) a c = ent s a c := by
  unfold ent WS.take takeL
  show (List.getD _ a []).getD c 0 = _
  congr 1
  rw [List.getD_eq_getElem?_getD, List.getElem?_set_ne (fun z => ha z.symm), ← List.getD_eq_getElem?_getD]
theorem ent_subs_top {s : WS} {n w top c lo : Nat} (h : Wf s n w) (ht : top < n) (hlo : top < lo) : ∀ k, lo + k ≤ n → ent (subs s top c lo k) top c = ent s top c
  | 0, _ => rfl
  | k + 1, hk => by
    show ent (sub1 top c _ _) top c = _
    unfold sub1
    rw [ent_take (wf_subs h ht k (by omega)) (by omega) ht (by omega)]
    exact ent_subs_top h ht hlo k (by omega)
theorem range_sub {n lo : Nat} : ((n : Int) - ((lo : Nat) : Int)).toNat = n - lo := by omega
end
end
section
section
variable {g : Pg}
abbrev cdC : Option (Value × Str) := some (.ref cA, "clear_column" ++ ".<locals>.")
abbrev CC (g : Pg) (k : Nat) : Cc := mkCd g n_clear_column s_clear_column k cdC
def lamOf : Stmt → Expr
  | .Assign _ (.Call _ _ [⟨_, e, _⟩] _) _ => e
  | _ => .Constant .none 0 ⟨0, 0, 0, 0⟩
theorem clear_top {k : Nat} (W : Wd g) {s : WS} {n w top c lo : Nat} (h : Wf s n w) (hc : c < w) {o3 o4 : O} {st : Stmt} (ht : top < n) (hst : st = (defBody s_clear_column).getD 0 (.Pass ⟨0, 0, 0, 0⟩) ∧ lo = top) :
    ST (CC g k) st [oW, .dat (.int (top : Int)), .dat (.int (c : Int)), o3, o4, .no] (wC s) (.nx [oW, .dat (.int (top : Int)), .dat (.int (c : Int)), .dat (lN (bl s lo c)), o4, .no] (wC s)) := by
  obtain ⟨rfl, rfl⟩ := hst
  rw [lN_bl, h.r, ← range_sub]
  exact ST.to (LC.set 3 (LC.lPG (own := [("at", 5)]) (it := atI0 ((lo : Nat) : Int)) (inv := tt) (v := fun i => .int (((lo + i : Nat)) : Int)) (f := fun i => !decide (ent s (lo + i) c = 0)) (by rfl) c_clear_column.nd (EI.rng2 (EV.nm 1) (EV.to (EV.lenC (EV.rows W (EV.nm 0)) rfl W.b.len) (by rw [cel_len, h.r])) W.b.range (by have := h.n1; omega) (by have := h.n1; omega)) (fun _ => True.intro) (by have := h.n1; omega) (Nat.le_refl _) OkM.refl (fun i hi =>
    have hi' : lo + i < n := by omega
    have e : atI0 ((lo : Nat) : Int) i = .dat (.int ((lo + i : Nat) : Int)) := by
      unfold atI0
      rw [Int.natCast_add]
    ⟨_, fun M => EGv.nm 5 c_clear_column.nd (by simp), fun cc => e ▸ EP.one (ET.cm (ev_ent W h rfl (EV.nm 0) (EV.nm 5) (EV.nm 2) hi' hc) EV.int CS.neI), fun _ cc => e ▸ EV.nm 5⟩)) rfl rfl (fun env he => sw_true (by rw [he]; rfl) (by rw [he]; rfl) (by rfl) (by rfl))) rfl
def wbody : List Stmt := match (defBody s_clear_column).getD 1 (.Pass ⟨0, 0, 0, 0⟩) with
  | .While _ b _ _ => b
  | _ => []
theorem clear_low {k : Nat} (W : Wd g) {s : WS} {n w top c : Nat} (h : Wf s n w) (hc : c < w) {o3 o4 : O} (ht : top < n) :
    ST (CC g k) (wbody.getD 4 (.Pass ⟨0, 0, 0, 0⟩)) [oW, .dat (.int (top : Int)), .dat (.int (c : Int)), o3, o4, .no] (wC s) (.nx [oW, .dat (.int (top : Int)), .dat (.int (c : Int)), .dat (lN (bl s (top + 1) c)), o4, .no] (wC s)) := by
  rw [lN_bl, h.r, ← range_sub]
  exact ST.to (LC.set 3 (LC.lPG (own := [("at", 5)]) (it := atI0 (((top + 1 : Nat)) : Int)) (inv := tt) (v := fun i => .int (((top + 1 + i : Nat)) : Int)) (f := fun i => !decide (ent s (top + 1 + i) c = 0)) (by rfl) c_clear_column.nd (EI.rng2 (i := ((top + 1 : Nat) : Int)) (EV.to (EV.add (i := (top : Int)) (j := 1) (EV.nm 1) EV.int) rfl) (EV.to (EV.lenC (EV.rows W (EV.nm 0)) rfl W.b.len) (by rw [cel_len, h.r])) W.b.range (by have := h.n1; omega) (by have := h.n1; omega)) (fun _ => True.intro) (by have := h.n1; omega) (Nat.le_refl _) OkM.refl (fun i hi =>
    have hi' : top + 1 + i < n := by omega
    have e : atI0 (((top + 1 : Nat)) : Int) i = .dat (.int ((top + 1 + i : Nat) : Int)) := by
      unfold atI0
      rw [Int.natCast_add (top + 1) i]
    ⟨_, fun M => EGv.nm 5 c_clear_column.nd (by simp), fun cc => e ▸ EP.one (ET.cm (ev_ent W h rfl (EV.nm 0) (EV.nm 5) (EV.nm 2) hi' hc) EV.int CS.neI), fun _ cc => e ▸ EV.nm 5⟩)) rfl rfl (fun env he => sw_true (by rw [he]; rfl) (by rw [he]; rfl) (by rfl) (by rfl))) rfl
theorem clear_min {k : Nat} (W : Wd g) {s : WS} {n w top c : Nat} (h : Wf s n w) (hc : c < w) (ht : top < n) {l : List Nat} (hl : l ≠ []) (hln : ∀ a ∈ l, a < n) {o4 : O} :
    ST (CC g (k + 2)) (wbody.getD 0 (.Pass ⟨0, 0, 0, 0⟩)) [oW, .dat (.int (top : Int)), .dat (.int (c : Int)), .dat (lN l), o4, .no] (wC s) (.nx [oW, .dat (.int (top : Int)), .dat (.int (c : Int)), .dat (lN l), .dat (.int (bestAt s c l : Int)), .no] (wC s)) := by
  have hpos : 0 < l.length := by
    cases l with
    | nil => exact absurd rfl hl
    | cons a r => simp
  have hb := bestI_ok (ka := fun j => ((ent s (l.getD j 0) c).natAbs : Int)) (kb := fun j => (l.getD j 0 : Int)) (l.length - 1)
  have hle := bestI_le (ka := fun j => ((ent s (l.getD j 0) c).natAbs : Int)) (kb := fun j => (l.getD j 0 : Int)) (l.length - 1)
  have hlt : bestI (fun j => ((ent s (l.getD j 0) c).natAbs : Int)) (fun j => (l.getD j 0 : Int)) (l.length - 1) < l.length := by omega
  have ln : (l.map fun (k : Nat) => D.int (k : Int)).length = l.length := List.length_map _
  have gt : ∀ (j : Nat) (d : D), (l.map fun (k : Nat) => D.int (k : Int))[j]? = some d → d = .int ((l.getD j 0 : Nat) : Int) ∧ j < l.length := fun j d hd => by
    have hj : j < l.length := by rw [← ln]; exact (List.getElem?_eq_some_iff.mp hd).1
    rw [List.getElem?_map, List.getElem?_eq_getElem hj] at hd
    refine ⟨?_, hj⟩
    rw [List.getD_eq_getElem?_getD, List.getElem?_eq_getElem hj]
    exact (Option.some.inj hd).symm
  refine ST.set 4 (EV.minKey (ds := l.map fun (k : Nat) => .int (k : Int)) (q := "clear_column" ++ ".<locals>.") (cA := cA) (P := pA) (N := ["at", "work", "column"]) (fr := ["work", "column"]) (pn := "at") (js := [0, 2]) (cs := [oW, .dat (.int (c : Int))]) (k := k) (ka := fun j => ((ent s (l.getD j 0) c).natAbs : Int)) (kb := fun j => (l.getD j 0 : Int))
    (EV.nm 3) rfl W.l_clear_column.tb ?_ ?_ (NdefX.nscope_by (by decide +kernel)) (show NdefX.ndefB (defScope s_clear_column) _ _ = true by decide +kernel) (fun _ _ _ _ _ _ => rfl) rfl rfl (Nat.le_refl _) (fun j d hd => ?_) (by rw [ln, show l.length = l.length - 1 + 1 by omega]; exact hb) ?_ W.b.min) c_clear_column.nd
  · exact List.mem_singleton.mpr (by rfl)
  · intro p hp _
    rw [List.mem_singleton.mp hp]
    rfl
  · obtain ⟨rfl, hj⟩ := gt j d hd
    exact EV.tup (ds := [.int ((ent s (l.getD j 0) c).natAbs : Int), .int ((l.getD j 0 : Nat) : Int)]) (EA.cons (EV.abs (ev_ent W h rfl (EV.nm 1) (EV.nm 0) (EV.nm 2) (hln _ (mem_getD hj)) hc) W.b.abs) (EA.cons (EV.nm 0) EA.nil)) (by simp)
  · rw [List.getElem?_map]
    unfold bestAt
    rw [List.getD_eq_getElem?_getD, List.getElem?_eq_getElem hlt]
    rfl
theorem clear_swap {k : Nat} (W : Wd g) {s : WS} {n w top c best : Nat} (h : Wf s n w) (ht : top < n) (hb : best < n) {o3 : O} (hk : Nat.ble 1 k = true) :
    ST (CC g k) (wbody.getD 1 (.Pass ⟨0, 0, 0, 0⟩)) [oW, .dat (.int (top : Int)), .dat (.int (c : Int)), o3, .dat (.int (best : Int)), .no] (wC s) (.nx [oW, .dat (.int (top : Int)), .dat (.int (c : Int)), o3, .dat (.int (best : Int)), .no] (wC (swapIf s best top))) := by
  by_cases e : best = top
  · refine ST.no (ET.to (ET.cm (EV.nm 4) (EV.nm 1) CS.neI) (by simp [e])) ?_
    unfold swapIf
    rw [if_pos e]
    exact SB.nil
  · refine ST.yes (ET.to (ET.cm (EV.nm 4) (EV.nm 1) CS.neI) (by simp; omega)) ?_
    unfold swapIf
    rw [if_neg e]
    exact SB.one (ST.exp (EV.methW (ds := [.int (best : Int), .int (top : Int)]) (ok_swap W) (EV.nm 0) (EA.cons (EV.nm 4) (EA.cons (EV.nm 1) EA.nil)) W.cls_Work ⟨s, best, top, by rw [h.r]; exact hb, by rw [h.r]; exact ht, by rw [h.r, h.t], by rw [h.r, h.b], rfl, rfl, rfl, rfl⟩ rfl hk))
theorem clear_turn {k : Nat} (W : Wd g) {s : WS} {n w top c : Nat} (h : Wf s n w) (ht : top < n) (hc : c < w) {o3 o4 : O} (hk : Nat.ble 1 k = true) :
    ST (CC g k) (wbody.getD 2 (.Pass ⟨0, 0, 0, 0⟩)) [oW, .dat (.int (top : Int)), .dat (.int (c : Int)), o3, o4, .no] (wC s) (.nx [oW, .dat (.int (top : Int)), .dat (.int (c : Int)), o3, o4, .no] (wC (turnIf s top c))) := by
  by_cases e : ent s top c < 0
  · refine ST.yes (ET.to (ET.cm (ev_ent W h rfl (EV.nm 0) (EV.nm 1) (EV.nm 2) ht hc) EV.int CS.ltI) (decide_eq_true e)) ?_
    unfold turnIf
    rw [if_pos e]
    exact SB.one (ST.exp (EV.methW (ds := [.int (top : Int)]) (ok_turn W) (EV.nm 0) (EA.cons (EV.nm 1) EA.nil) W.cls_Work ⟨s, top, by rw [h.r]; exact ht, by rw [h.r, h.t], by rw [h.r, h.b], h.small, rfl, rfl, rfl, rfl⟩ rfl hk))
  · refine ST.no (ET.to (ET.cm (ev_ent W h rfl (EV.nm 0) (EV.nm 1) (EV.nm 2) ht hc) EV.int CS.ltI) (decide_eq_false e)) ?_
    unfold turnIf
    rw [if_neg e]
    exact SB.nil
theorem clear_subs {k : Nat} (W : Wd g) {s : WS} {n w top c : Nat} (h : Wf s n w) (ht : top < n) (hc : c < w) {o3 o4 : O} (hp : ent s top c ≠ 0) (ok : subsOk s top c (top + 1) (n - (top + 1))) (hk : Nat.ble 32 k = true) (hk2 : Nat.ble 2 k = true) :
    ST (CC g k) (wbody.getD 3 (.Pass ⟨0, 0, 0, 0⟩)) [oW, .dat (.int (top : Int)), .dat (.int (c : Int)), o3, o4, .no] (wC s) (.nx [oW, .dat (.int (top : Int)), .dat (.int (c : Int)), o3, o4, .no] (wC (subs s top c (top + 1) (n - (top + 1))))) := by
  rw [← range_sub]
  refine ST.forN 5 (E_ := fun _ => [oW, .dat (.int (top : Int)), .dat (.int (c : Int)), o3, o4, .no]) (M_ := fun i => wC (subs s top c (top + 1) i)) (EI.rng2 (i := ((top + 1 : Nat) : Int)) (EV.to (EV.add (i := (top : Int)) (j := 1) (EV.nm 1) EV.int) rfl) (EV.to (EV.lenC (EV.rows W (EV.nm 0)) rfl W.b.len) (by rw [cel_len, h.r])) W.b.range (by have := h.n1; omega) (by have := h.n1; omega)) Fg.refl rfl (fun _ _ => True.intro) c_clear_column.nd (fun i hi => ?_)
  have hi' : top + 1 + i < n := by omega
  have hw := wf_subs (c := c) (lo := top + 1) h ht i (by omega)
  have et := ent_subs_top (c := c) (lo := top + 1) h ht (by omega) i (by omega)
  have e : atI0 (((top + 1 : Nat)) : Int) i = .dat (.int ((top + 1 + i : Nat) : Int)) := by
    unfold atI0
    rw [Int.natCast_add (top + 1) i]
  rw [e]
  refine ⟨[oW, .dat (.int (top : Int)), .dat (.int (c : Int)), o3, o4, .dat (.int ((top + 1 + i : Nat) : Int))], Fg.cons (Fg.cons (Fg.cons (Fg.cons (Fg.cons (Fg.no Fg.nil))))), ?_⟩
  exact SB.one (ST.exp (EV.methW (ds := [.int ((top + 1 + i : Nat) : Int), .int _, .int (top : Int)]) (ok_take W) (EV.nm 0) (EA.cons (EV.nm 5) (EA.cons (EV.bin (ev_ent W hw rfl (EV.nm 0) (EV.nm 5) (EV.nm 2) hi' hc) (ev_ent W hw rfl (EV.nm 0) (EV.nm 1) (EV.nm 2) ht hc) (BS.fdivX W.seer W.tree (by rw [et]; exact hp) hk)) (EA.cons (EV.nm 1) EA.nil))) W.cls_Work
    ⟨_, top + 1 + i, _, top, by rw [hw.r]; exact hi', by rw [hw.r]; exact ht, by rw [hw.r, hw.t], by rw [hw.r, hw.b], hw.small, ok i (by omega), rfl, rfl, rfl, rfl⟩ rfl hk2))
theorem ok_clear (W : Wd g) : FN g "clear_column" 33 clearR := by
  refine FN.mkC W.l_clear_column c_clear_column (fun _ _ _ _ _ _ us hl => match us, hl with | [_, _, _], _ => rfl) (fun os M o M' h => ?_) (fun os M o M' h => ?_)
  · obtain ⟨_, _, _, _, _, _, _, rfl, _⟩ := h
    rfl
  obtain ⟨s, n, w, top, c, m, ⟨hw, ht, hc, hm, hi⟩, rfl, rfl, rfl, rfl⟩ := h
  refine ⟨Nat.le_refl _, True.intro, lowW, .inr ⟨rfl, [oW, .dat (.int (top : Int)), .dat (.int (c : Int)), .dat (lN (itr s top c m).2), .no, .no], [], ?_⟩⟩
  refine SB.cons (clear_top W hw hc ht ⟨rfl, rfl⟩) (SB.one ?_)
  refine ST.while (E_ := fun i => [oW, .dat (.int (top : Int)), .dat (.int (c : Int)), .dat (lN (itr s top c i).2), .no, .no]) (M_ := fun i => wC (itr s top c i).1) (m := m) Fg.refl rfl (fun i him => ?_) ?_
  · obtain ⟨hne, ok⟩ := hi i him
    have hwi := wf_itr hw ht i fun j hj => (hi j (by omega)).1
    have hb := itr_mem i _ (bestAt_mem (c := c) (s := (itr s top c i).1) hne)
    rw [hwi.r] at hb
    have hlen : 0 < ((itr s top c i).2.length : Nat) := by
      cases h : (itr s top c i).2 with
      | nil => exact absurd h hne
      | cons a r => simp
    have hln : lenD (lN (itr s top c i).2) = some (itr s top c i).2.length := by
      show some (List.map _ _).length = _
      rw [List.length_map]
    have hwp := wf_prep (c := c) hwi ht hb.2.1
    refine ⟨wC (itr s top c i).1, [oW, .dat (.int (top : Int)), .dat (.int (c : Int)), .dat (lN (itr s top c (i + 1)).2), .dat (.int (bestAt (itr s top c i).1 c (itr s top c i).2 : Int)), .no], ET.to (ET.cm (EV.len (EV.nm 3) hln W.b.len) EV.int CS.gtI) (decide_eq_true (by omega)), Fg.cons (Fg.cons (Fg.cons (Fg.cons (Fg.no (Fg.cons Fg.nil))))), ?_⟩
    refine SB.cons (clear_min W hwi hc ht hne (fun a ha => by have := itr_mem i a ha; rw [hwi.r] at this; exact this.2.1)) (SB.cons (clear_swap W hwi ht hb.2.1 (by rfl)) (SB.cons (clear_turn W (wf_swapIf hwi ht hb.2.1) ht hc (by rfl)) ?_))
    have hp : ent (prep (itr s top c i).1 top c (bestAt (itr s top c i).1 c (itr s top c i).2)) top c ≠ 0 := by
      rw [ent_prep hwi ht hb.2.1]
      have := hb.2.2
      omega
    have eS : subs (prep (itr s top c i).1 top c (bestAt (itr s top c i).1 c (itr s top c i).2)) top c (top + 1) (n - (top + 1)) = (itr s top c (i + 1)).1 := by
      show _ = rnd _ top c _
      unfold rnd
      rw [hwi.r]
    have hS := clear_subs (k := 32) (o3 := .dat (lN (itr s top c i).2)) (o4 := .dat (.int (bestAt (itr s top c i).1 c (itr s top c i).2 : Int))) W hwp ht hc hp ok (by rfl) (by rfl)
    rw [eS] at hS
    refine SB.cons hS (SB.one ?_)
    have hw' := wf_itr hw ht (i + 1) fun j hj => (hi j (by omega)).1
    exact clear_low W hw' hc ht
  · have hln : lenD (lN (itr s top c m).2) = some 0 := by rw [hm]; rfl
    exact ET.to (ET.cm (EV.len (EV.nm 3) hln W.b.len) EV.int CS.gtI) (by decide)
end
end
section
section
theorem ST.augI {C : Cc} {E : List O} {M M' : Mem} {e : Expr} {p pos : Pos} {a b : Int} (i : Nat) {x : Str} (hE : E[i]? = some (.dat (.int a))) (h : EV C e E M (.dat (.int b)) M') (nd : C.N.Nodup) (hi : C.N[i]? = some x := by rfl) (hx : Loc C.sc x := by first | exact Or.inl rfl | exact Or.inr rfl)
    (hf : C.fn x = true ∨ C.sc.names.lookup x = some .local := by first | exact .inl rfl | exact .inr rfl) : ST C (.AugAssign (.Name x p) .Add e pos) E M (.nx (E.set i (.dat (.int (a + b)))) M') :=
  ST.mk (fun X hX => ps_aug (by rw [hX.N]; exact nd) (by rw [hX.N]; exact hi) (by rw [hX.sc]; exact hx) (ue hX e) ip_add (hf.elim (fun z => .inl (hX.fn x z)) (fun z => .inr (by rw [hX.sc]; exact z)))) fun I H adr σ D s q => by
    have hl : i < σ.length := by
      rw [← s.len]
      exact (List.getElem?_eq_some_iff.mp hE).1
    have h2 : σ[i]? = some σ[i] := List.getElem?_eq_getElem hl
    have h3 := s.slot i _ _ hE h2
    obtain ⟨v, hv⟩ : ∃ v, σ[i] = some v := by
      cases hv : σ[i] with
      | none =>
        rw [hv] at h3
        cases h3
      | some v => exact ⟨v, rfl⟩
    rw [hv] at h3 h2
    cases (show Rep I (.int a) v from h3)
    refine ⟨_, h2, h I H adr σ _ s fun w I1 H1 adr1 s1 g1 v1 => ?_⟩
    cases (show Rep I1 (.int b) w from v1)
    exact ⟨a, b, rfl, rfl, q I1 H1 adr1 _ (s1.set (o := .dat (.int (a + b))) (.int _)) g1⟩
end
section
variable {g : Pg}
/-- one column: m rounds -/
def colStep (u : WS × Nat) (n c m : Nat) : WS × Nat := if u.2 < n then (let s1 := (itr u.1 u.2 c m).1; if ent s1 u.2 c ≠ 0 then (subs s1 u.2 c 0 u.2, u.2 + 1) else (s1, u.2)) else u
def hw (a : List (List Int)) (mm : Nat → Nat) : Nat → WS × Nat
  | 0 => (wsOf a, 0)
  | c + 1 => colStep (hw a mm c) a.length c (mm c)
def hwOk (a : List (List Int)) (w : Nat) (mm : Nat → Nat) : Prop := ∀ c, c < w → (hw a mm c).2 < a.length → clearOk (hw a mm c).1 a.length w (hw a mm c).2 c (mm c) ∧
  (ent (itr (hw a mm c).1 (hw a mm c).2 c (mm c)).1 (hw a mm c).2 c ≠ 0 → subsOk (itr (hw a mm c).1 (hw a mm c).2 c (mm c)).1 (hw a mm c).2 c 0 (hw a mm c).2)
theorem ent_subs_top0 {s : WS} {n w top c : Nat} (h : Wf s n w) (ht : top < n) : ∀ k, k ≤ top → ent (subs s top c 0 k) top c = ent s top c
  | 0, _ => rfl
  | k + 1, hk => by
    show ent (sub1 top c _ _) top c = _
    unfold sub1
    rw [ent_take (wf_subs h ht k (by omega)) (by omega) ht (by omega)]
    exact ent_subs_top0 h ht k (by omega)
theorem wf_of {a : List (List Int)} (h : Mx a) : Wf (wsOf a) a.length (wd a) := by
  have hu : ∀ q ∈ unitM a.length, q.length = a.length := fun q hq => by
    obtain ⟨i, _, rfl⟩ := List.mem_map.mp hq
    rw [List.length_map, List.length_range]
  exact ⟨rfl, unit_len, unit_len, h.rect, hu, hu, h.l1, by have := h.l8; omega, by have := h.w8; omega⟩
theorem wf_col {s : WS} {n w top c m : Nat} (h : Wf s n w) (ho : top < n → clearOk s n w top c m) : Wf (colStep (s, top) n c m).1 n w := by
  unfold colStep
  split
  · rename_i ht
    obtain ⟨_, _, hc, hm, hi⟩ := ho ht
    have h1 : Wf (itr s top c m).1 n w := wf_itr h ht m fun j hj => (hi j hj).1
    show Wf (if ent (itr s top c m).1 top c ≠ 0 then _ else _ : WS × Nat).1 n w
    split
    · exact wf_subs h1 ht top (by show 0 + top ≤ n; have : top < n := ht; omega)
    · exact h1
  · exact h
theorem wf_hw {a : List (List Int)} {mm : Nat → Nat} (h : Mx a) (ok : hwOk a (wd a) mm) : ∀ c, c ≤ wd a → Wf (hw a mm c).1 a.length (wd a)
  | 0, _ => wf_of h
  | c + 1, hc => wf_col (s := (hw a mm c).1) (top := (hw a mm c).2) (wf_hw h ok c (by omega)) fun ht => (ok c (by omega) ht).1
theorem top_hw {a : List (List Int)} {mm : Nat → Nat} : ∀ c, (hw a mm c).2 ≤ a.length
  | 0 => Nat.zero_le _
  | c + 1 => by
    have ih := top_hw (a := a) (mm := mm) c
    show (colStep (hw a mm c) a.length c (mm c)).2 ≤ _
    unfold colStep
    split
    · show (if _ ≠ _ then _ else _ : WS × Nat).2 ≤ _
      split
      · show (hw a mm c).2 + 1 ≤ _
        omega
      · exact ih
    · exact ih
def hwaysR (d r : D) : Prop := ∃ a mm, Mx a ∧ hwOk a (wd a) mm ∧ d = tM a ∧ r = .tup [tM (hw a mm (wd a)).1.r, tM (hw a mm (wd a)).1.t, tM (flip (hw a mm (wd a)).1.b)]
theorem ok_hermite_ways (W : Wd g) : FN g "hermite_ways" 34 (P1 hwaysR) := by
  refine FN.mk2x W.t_hermite_ways c_hermite_ways (fun _ _ _ _ _ _ us hl => match us, hl with | [_], _ => rfl) (fun os M o M' h => ?_) (fun os M o M' h => ?_)
  · obtain ⟨d, r, rfl, _⟩ := h
    rfl
  obtain ⟨d, r, rfl, rfl, rfl, rfl, a, mm, hM, ok, rfl, rfl⟩ := h
  refine ⟨Nat.le_refl _, True.intro, LowM.nil, .inl ⟨wC (hw a mm (wd a)).1, ?_⟩⟩
  have n8 := hM.l8
  have w8 := hM.w8
  have E0 : SB (mkCd g n_hermite_ways s_hermite_ways 33 none) (defBody s_hermite_ways) (pad n_hermite_ways [.dat (tM a)]) [] (.rt (.dat (.tup [tM (hw a mm (wd a)).1.r, tM (hw a mm (wd a)).1.t, tM (flip (hw a mm (wd a)).1.b)])) (wC (hw a mm (wd a)).1)) := by
    refine SB.cons (E1 := [.dat (tM a), oW, .no, .no, .no, .no]) (M1 := wC (wsOf a)) (ST.to (ST.set 1 (EV.make (ι := []) (ok_Work W) (EA.cons (EV.nm 0) EA.nil) ⟨a, by omega, rfl, rfl, rfl, rfl⟩ rfl mixWn) c_hermite_ways.nd) rfl) ?_
    refine SB.cons (E1 := [.dat (tM a), oW, .dat (.int 0), .no, .no, .no]) (M1 := wC (wsOf a)) (ST.set 2 EV.int c_hermite_ways.nd) ?_
    refine SB.cons (E1 := [.dat (tM a), oW, .dat (.int ((hw a mm (wd a)).2 : Int)), .no, .no, .no]) (M1 := wC (hw a mm (wd a)).1) (ST.forN 3 (n := wd a) (E_ := fun c => [.dat (tM a), oW, .dat (.int ((hw a mm c).2 : Int)), .no, .no, .no]) (M_ := fun c => wC (hw a mm c).1)
      (EI.rng1 (j := (wd a : Int)) (EV.len (EV.ix (EV.nm 0) EV.int (ix_tM0 hM.ne)) len_tV W.b.len) W.b.range (by omega)) Fg.refl rfl (fun _ _ => True.intro) c_hermite_ways.nd (fun c hc => ?_)) ?_
    · have e : atI0 0 c = .dat (.int (c : Int)) := by
        unfold atI0
        rw [Int.zero_add]
      rw [e]
      have hw0 := wf_hw hM ok c (by omega)
      have hle : lenD (tM a) = some a.length := len_tM
      by_cases ht : (hw a mm c).2 < a.length
      · obtain ⟨hc1, hc2⟩ := ok c hc ht
        have hc3 := hc1
        obtain ⟨_, _, hcw, hm, hi⟩ := hc3
        have hw1 : Wf (itr (hw a mm c).1 (hw a mm c).2 c (mm c)).1 a.length (wd a) := wf_itr hw0 ht (mm c) fun j hj => (hi j hj).1
        have e1 : hw a mm (c + 1) = (if ent (itr (hw a mm c).1 (hw a mm c).2 c (mm c)).1 (hw a mm c).2 c ≠ 0 then (subs (itr (hw a mm c).1 (hw a mm c).2 c (mm c)).1 (hw a mm c).2 c 0 (hw a mm c).2, (hw a mm c).2 + 1) else ((itr (hw a mm c).1 (hw a mm c).2 c (mm c)).1, (hw a mm c).2)) := by
          show colStep (hw a mm c) a.length c (mm c) = _
          unfold colStep
          rw [if_pos ht]
        generalize hs1 : (itr (hw a mm c).1 (hw a mm c).2 c (mm c)).1 = s1 at hc2 hw1 e1
        generalize hp : ent s1 (hw a mm c).2 c = pv at e1 hc2
        refine ⟨[.dat (tM a), oW, .dat (.int ((hw a mm (c + 1)).2 : Int)), .dat (.int (c : Int)), .dat (.int pv), .no], Fg.cons (Fg.cons (Fg.cons (Fg.no (Fg.no (Fg.cons Fg.nil))))), SB.one ?_⟩
        refine ST.yes (ET.to (ET.cm (EV.nm 2) (EV.len (EV.nm 0) hle W.b.len) CS.ltI) (decide_eq_true (by omega))) ?_
        refine SB.cons (E1 := [.dat (tM a), oW, .dat (.int ((hw a mm c).2 : Int)), .dat (.int (c : Int)), .no, .no]) (M1 := wC s1) (ST.exp (EV.callW (ds := [.int ((hw a mm c).2 : Int), .int (c : Int)]) (d := .non) (s := (hw a mm c).1) (s' := s1) (ok_clear W) (EA.cons (EV.nm 1) (EA.cons (EV.nm 2) (EA.cons (EV.nm 3) EA.nil))) ⟨_, _, _, _, _, _, hc1, rfl, rfl, rfl, by rw [hs1]⟩)) ?_
        refine SB.cons (E1 := [.dat (tM a), oW, .dat (.int ((hw a mm c).2 : Int)), .dat (.int (c : Int)), .dat (.int pv), .no]) (M1 := wC s1) (ST.set 4 (EV.to (ev_ent W hw1 rfl (EV.nm 1) (EV.nm 2) (EV.nm 3) ht hcw) (by rw [hp])) c_hermite_ways.nd) (SB.one ?_)
        by_cases hz : pv = 0
        · rw [if_neg (fun z => z hz)] at e1
          rw [e1]
          exact ST.no (ET.to (ET.cm (EV.nm 4) EV.int CS.neI) (by simp [hz])) SB.nil
        · rw [if_pos hz] at e1
          rw [e1]
          refine ST.yes (ET.to (ET.cm (EV.nm 4) EV.int CS.neI) (by simp [hz])) ?_
          refine SB.cons (E1 := [.dat (tM a), oW, .dat (.int ((hw a mm c).2 : Int)), .dat (.int (c : Int)), .dat (.int pv), .no]) (M1 := wC (subs s1 (hw a mm c).2 c 0 (hw a mm c).2)) (ST.forN 5 (n := (hw a mm c).2) (E_ := fun _ => [.dat (tM a), oW, .dat (.int ((hw a mm c).2 : Int)), .dat (.int (c : Int)), .dat (.int pv), .no]) (M_ := fun k => wC (subs s1 (hw a mm c).2 c 0 k)) (EI.rng1 (j := ((hw a mm c).2 : Int)) (EV.nm 2) W.b.range (by omega)) Fg.refl rfl (fun _ _ => True.intro) c_hermite_ways.nd (fun k hk => ?_)) (SB.one (ST.to (ST.augI (a := ((hw a mm c).2 : Int)) (b := 1) 2 rfl EV.int c_hermite_ways.nd) rfl))
          have e : atI0 0 k = .dat (.int (k : Int)) := by
            unfold atI0
            rw [Int.zero_add]
          rw [e]
          have hk' : k < (hw a mm c).2 := hk
          have hwk := wf_subs (c := c) (lo := 0) hw1 ht k (by omega)
          have etk := ent_subs_top0 (c := c) hw1 ht k (by omega)
          have okk := hc2 hz k hk'
          rw [etk, hp, Nat.zero_add] at okk
          refine ⟨[.dat (tM a), oW, .dat (.int ((hw a mm c).2 : Int)), .dat (.int (c : Int)), .dat (.int pv), .dat (.int (k : Int))], Fg.cons (Fg.cons (Fg.cons (Fg.cons (Fg.cons (Fg.no Fg.nil))))), ?_⟩
          refine SB.one (ST.exp (EV.methW (ds := [.int (k : Int), .int _, .int ((hw a mm c).2 : Int)]) (d := .non) (s' := subs s1 (hw a mm c).2 c 0 (k + 1)) (ok_take W) (EV.nm 1) (EA.cons (EV.nm 5) (EA.cons (EV.bin (ev_ent W hwk rfl (EV.nm 1) (EV.nm 5) (EV.nm 3) (by omega) hcw) (EV.nm 4) (BS.fdivX W.seer W.tree hz)) (EA.cons (EV.nm 2) EA.nil))) W.cls_Work
            ⟨_, k, _, (hw a mm c).2, by rw [hwk.r]; omega, by rw [hwk.r]; exact ht, by rw [hwk.r, hwk.t], by rw [hwk.r, hwk.b], hwk.small, okk, rfl, rfl, rfl, ?_⟩))
          show wC (sub1 _ _ _ _) = _
          unfold sub1
          rw [etk, hp, Nat.zero_add]
      · have e1 : hw a mm (c + 1) = hw a mm c := by
          show colStep (hw a mm c) a.length c (mm c) = _
          unfold colStep
          rw [if_neg ht]
        rw [e1]
        exact ⟨[.dat (tM a), oW, .dat (.int ((hw a mm c).2 : Int)), .dat (.int (c : Int)), .no, .no], Fg.cons (Fg.cons (Fg.cons (Fg.no (Fg.cons (Fg.cons Fg.nil))))), SB.one (ST.no (ET.to (ET.cm (EV.nm 2) (EV.len (EV.nm 0) hle W.b.len) CS.ltI) (decide_eq_false (by omega))) SB.nil)⟩
    · have hwe := wf_hw hM ok (wd a) (Nat.le_refl _)
      have hbne : (hw a mm (wd a)).1.b ≠ [] := fun z => by
        have := hwe.b
        rw [z] at this
        have := hwe.n0
        simp at *
        omega
      have hwdb : wd (hw a mm (wd a)).1.b = a.length := by
        have hbw := hwe.bw
        generalize (hw a mm (wd a)).1.b = bb at hbne hbw
        cases bb with
        | nil => exact absurd rfl hbne
        | cons q r => exact hbw q List.mem_cons_self
      exact SB.one (ST.ret (methW0 (ok_ways W) (EV.nm 1) W.cls_Work ⟨_, by rw [hwe.r]; omega, by rw [hwe.t]; omega, by rw [hwe.b]; omega, hbne, fun q hq => by rw [hwdb]; exact hwe.bw q hq, by rw [hwdb]; omega, rfl, rfl, rfl, rfl⟩))
  exact E0
end
end
section
/-! ### numbers stay small enough -/
section
theorem bits_le2 {i : Int} {a : Nat} (h : i.natAbs ≤ 2 ^ a) : Builtin.Int.intBits i ≤ a + 1 := by
  unfold Builtin.Int.intBits
  split
  · omega
  · rename_i hi
    have h0 : i.natAbs ≠ 0 := fun z => by
      have : i = 0 := Int.natAbs_eq_zero.mp z
      rw [this] at hi
      exact hi rfl
    have := (Nat.log2_lt h0).mpr (Nat.lt_of_le_of_lt h (Nat.pow_lt_pow_right (by omega) (Nat.lt_succ_self a)))
    omega
theorem mulOk_bits {i j : Int} {a b : Nat} (h1 : i.natAbs ≤ 2 ^ a) (h2 : j.natAbs ≤ 2 ^ b) (h : a + b + 2 ≤ 134217728) : IntMulOk i j := by
  have e1 := bits_le2 h1
  have e2 := bits_le2 h2
  unfold IntMulOk
  have : Builtin.Int.intTooBig ((Builtin.Int.intBits i : Nat) + (Builtin.Int.intBits j : Nat) : Int) = false := by
    unfold Builtin.Int.intTooBig
    refine decide_eq_false ?_
    show ¬ (((Builtin.Int.intBits i : Nat) : Int) + (Builtin.Int.intBits j : Nat) > ((2 ^ 27 : Nat) : Int))
    have : (2 ^ 27 : Nat) = 134217728 := by decide
    omega
  rw [this, Bool.and_false]
  exact Bool.false_ne_true
/-- the number at a place of a list of rows, 0 where there is none -/
def gE (l : List (List Int)) (i j : Nat) : Int := (l.getD i []).getD j 0
theorem ent_gE {s : WS} {i j : Nat} : ent s i j = gE s.r i j := rfl
theorem gE_set {l : List (List Int)} {i a j : Nat} {v : List Int} (h : i < l.length) : gE (l.set i v) a j = if a = i then v.getD j 0 else gE l a j := by
  unfold gE
  by_cases e : a = i
  · subst e
    rw [if_pos rfl, List.getD_eq_getElem?_getD (l := l.set a v), List.getElem?_set_self h]
    rfl
  · rw [if_neg e, List.getD_eq_getElem?_getD (l := l.set i v), List.getElem?_set_ne (fun z => e z.symm), ← List.getD_eq_getElem?_getD]
theorem lessV_getD {v w : List Int} {k : Int} {j : Nat} (h : v.length = w.length) : (lessV v k w).getD j 0 = v.getD j 0 - k * w.getD j 0 := by
  unfold lessV
  simp only [List.getD_eq_getElem?_getD, List.getElem?_map]
  by_cases hj : j < v.length
  · have hj' : j < (v.zip w).length := by rw [List.length_zip]; omega
    rw [List.getElem?_eq_getElem hj', List.getElem?_eq_getElem hj, List.getElem?_eq_getElem (show j < w.length by omega), List.getElem_zip]
    rfl
  · rw [List.getElem?_eq_none (by rw [List.length_zip]; omega), List.getElem?_eq_none (by omega), List.getElem?_eq_none (by omega)]
    simp
theorem gE_take {l : List (List Int)} {i j a b u : Nat} {k : Int} (hi : i < l.length) (hj : j < l.length) (hu : ∀ q ∈ l, q.length = u) : gE (takeL l i k j) a b = if a = i then gE l i b - k * gE l j b else gE l a b := by
  unfold takeL
  rw [gE_set hi, lessV_getD (by rw [hu _ (mem_getD hi), hu _ (mem_getD hj)])]
  rfl
theorem gE_neg {l : List (List Int)} {i a b : Nat} (hi : i < l.length) : gE (negL l i) a b = if a = i then - gE l i b else gE l a b := by
  unfold negL
  rw [gE_set hi, getD_map_neg]
  rfl
theorem gE_swap {l : List (List Int)} {i j a b : Nat} (hi : i < l.length) (hj : j < l.length) : gE (swapL l i j) a b = if a = j then gE l i b else if a = i then gE l j b else gE l a b := by
  unfold swapL
  rw [gE_set (by rw [List.length_set]; exact hj), gE_set hi]
  rfl
theorem gE_all {l : List (List Int)} {i : Nat} {P : Int → Prop} (h : ∀ j, P (gE l i j)) : ∀ y ∈ l.getD i [], P y := fun y hy => by
  obtain ⟨j, hj, e⟩ := List.getElem_of_mem hy
  have := h j
  unfold gE at this
  rw [List.getD_eq_getElem?_getD (l := l.getD i []), List.getElem?_eq_getElem hj, e] at this
  exact this
theorem ent_take' {s : WS} {n w i j a b : Nat} {k : Int} (h : Wf s n w) (hi : i < n) (hj : j < n) : ent (s.take i k j) a b = if a = i then ent s i b - k * ent s j b else ent s a b := gE_take (by rw [h.r]; exact hi) (by rw [h.r]; exact hj) h.rw
/-- the takes of a row of places, at once -/
theorem ent_subs {s : WS} {n w top c lo : Nat} (h : Wf s n w) (ht : top < n) : ∀ k, lo + k ≤ n → (top < lo ∨ lo + k ≤ top) → ∀ a b, ent (subs s top c lo k) a b = if lo ≤ a ∧ a < lo + k then ent s a b - (ent s a c).fdiv (ent s top c) * ent s top b else ent s a b
  | 0, _, _, a, b => by
    rw [if_neg (by omega)]
    rfl
  | k + 1, hk, hd, a, b => by
    have ih := ent_subs (c := c) (lo := lo) h ht k (by omega) (by omega)
    have hw := wf_subs (c := c) (lo := lo) h ht k (by omega)
    show ent (sub1 top c _ _) a b = _
    unfold sub1
    rw [ent_take' hw (by omega) ht]
    have e1 : ∀ b, ent (subs s top c lo k) (lo + k) b = ent s (lo + k) b := fun b => by rw [ih, if_neg (by omega)]
    have e2 : ∀ b, ent (subs s top c lo k) top b = ent s top b := fun b => by rw [ih, if_neg (by omega)]
    rw [e1, e1, e2, e2]
    by_cases ha : a = lo + k
    · subst ha
      rw [if_pos rfl, if_pos (by omega)]
    · rw [if_neg ha, ih]
      by_cases hb : lo ≤ a ∧ a < lo + k
      · rw [if_pos hb, if_pos (by omega)]
      · rw [if_neg hb, if_neg (by omega)]
def ZB (s : WS) (Z : Nat) : Prop := ∀ i j, (gE s.t i j).natAbs ≤ Z ∧ (gE s.b i j).natAbs ≤ Z
theorem abs_less {x y k : Int} {Z f : Nat} (hx : x.natAbs ≤ Z) (hy : y.natAbs ≤ Z) (hk : k.natAbs + 1 ≤ f) : (x - k * y).natAbs ≤ Z * f := by
  have h1 : (x - k * y).natAbs ≤ x.natAbs + (k * y).natAbs := by omega
  rw [Int.natAbs_mul] at h1
  have h2 : k.natAbs * y.natAbs ≤ k.natAbs * Z := Nat.mul_le_mul_left _ hy
  have h3 : Z * (k.natAbs + 1) ≤ Z * f := Nat.mul_le_mul_left _ hk
  rw [Nat.mul_add, Nat.mul_one, Nat.mul_comm Z] at h3
  omega
theorem ZB.mono {s : WS} {Z Z' : Nat} (h : ZB s Z) (hz : Z ≤ Z') : ZB s Z' := fun i j => ⟨Nat.le_trans (h i j).1 hz, Nat.le_trans (h i j).2 hz⟩
theorem ZB.take {s : WS} {n w i j Z f : Nat} {k : Int} (h : Wf s n w) (z : ZB s Z) (hi : i < n) (hj : j < n) (hk : k.natAbs + 1 ≤ f) : ZB (s.take i k j) (Z * f) := fun a b => by
  have hf : Z ≤ Z * f := Nat.le_mul_of_pos_right _ (by omega)
  refine ⟨?_, ?_⟩
  · show (gE (takeL s.t i k j) a b).natAbs ≤ _
    rw [gE_take (by rw [h.t]; exact hi) (by rw [h.t]; exact hj) h.tw]
    split
    · exact abs_less (z i b).1 (z j b).1 hk
    · exact Nat.le_trans (z a b).1 hf
  · show (gE (takeL s.b j (-k) i) a b).natAbs ≤ _
    rw [gE_take (by rw [h.b]; exact hj) (by rw [h.b]; exact hi) h.bw]
    split
    · exact abs_less (z j b).2 (z i b).2 (by rw [Int.natAbs_neg]; exact hk)
    · exact Nat.le_trans (z a b).2 hf
theorem ZB.swap {s : WS} {n w i j Z : Nat} (h : Wf s n w) (z : ZB s Z) (hi : i < n) (hj : j < n) : ZB (s.swap i j) Z := fun a b => by
  refine ⟨?_, ?_⟩
  · show (gE (swapL s.t i j) a b).natAbs ≤ _
    rw [gE_swap (by rw [h.t]; exact hi) (by rw [h.t]; exact hj)]
    split
    · exact (z _ _).1
    · split
      · exact (z _ _).1
      · exact (z _ _).1
  · show (gE (swapL s.b i j) a b).natAbs ≤ _
    rw [gE_swap (by rw [h.b]; exact hi) (by rw [h.b]; exact hj)]
    split
    · exact (z _ _).2
    · split
      · exact (z _ _).2
      · exact (z _ _).2
theorem ZB.turn {s : WS} {n w i Z : Nat} (h : Wf s n w) (z : ZB s Z) (hi : i < n) : ZB (s.turn i) Z := fun a b => by
  refine ⟨?_, ?_⟩
  · show (gE (negL s.t i) a b).natAbs ≤ _
    rw [gE_neg (by rw [h.t]; exact hi)]
    split
    · rw [Int.natAbs_neg]; exact (z _ _).1
    · exact (z _ _).1
  · show (gE (negL s.b i) a b).natAbs ≤ _
    rw [gE_neg (by rw [h.b]; exact hi)]
    split
    · rw [Int.natAbs_neg]; exact (z _ _).2
    · exact (z _ _).2
theorem ZB.subs {s : WS} {n w top c lo Z f : Nat} (h : Wf s n w) (ht : top < n) (z : ZB s Z) : ∀ k, lo + k ≤ n → (top < lo ∨ lo + k ≤ top) → (∀ a, lo ≤ a → a < lo + k → ((ent s a c).fdiv (ent s top c)).natAbs + 1 ≤ f) → ZB (Ab.subs s top c lo k) (Z * f ^ k)
  | 0, _, _, _ => by rw [Nat.pow_zero, Nat.mul_one]; exact z
  | k + 1, hk, hd, hf => by
    have ih := ZB.subs (lo := lo) (c := c) h ht z k (by omega) (by omega) fun a h1 h2 => hf a h1 (by omega)
    have hw := wf_subs (c := c) (lo := lo) h ht k (by omega)
    have e := ent_subs (c := c) (lo := lo) h ht k (by omega : lo + k ≤ n) (by omega)
    rw [Nat.pow_succ, ← Nat.mul_assoc]
    refine ZB.take hw ih (by omega) ht ?_
    rw [e, e, if_neg (by omega), if_neg (by omega)]
    exact hf (lo + k) (by omega) (by omega)
theorem ZB.swapIf {s : WS} {n w top best Z : Nat} (h : Wf s n w) (z : ZB s Z) (ht : top < n) (hb : best < n) : ZB (Ab.swapIf s best top) Z := by
  unfold Ab.swapIf
  split
  · exact z
  · exact z.swap h hb ht
theorem ZB.prep {s : WS} {n w top c best Z : Nat} (h : Wf s n w) (z : ZB s Z) (ht : top < n) (hb : best < n) : ZB (Ab.prep s top c best) Z := by
  unfold Ab.prep turnIf
  split
  · exact (z.swapIf h ht hb).turn (wf_swapIf h ht hb) ht
  · exact z.swapIf h ht hb
/-- the numbers behind the exchange and the turn -/
theorem ent_prep_ne {s : WS} {n w top c best a b : Nat} (h : Wf s n w) (ht : top < n) (hb : best < n) (ha : a ≠ top) : ent (prep s top c best) a b = if a = best then ent s top b else ent s a b := by
  have e1 : ent (swapIf s best top) a b = if a = best then ent s top b else ent s a b := by
    unfold swapIf
    by_cases e : best = top
    · rw [if_pos e]
      by_cases e2 : a = best
      · rw [if_pos e2, e2, e]
      · rw [if_neg e2]
    · rw [if_neg e]
      show gE (swapL s.r best top) a b = _
      rw [gE_swap (by rw [h.r]; exact hb) (by rw [h.r]; exact ht), if_neg ha]
      rfl
  rw [← e1]
  unfold prep turnIf
  split
  · show gE (negL _ top) a b = _
    rw [gE_neg (by rw [(wf_swapIf h ht hb).r]; exact ht), if_neg ha]
    rfl
  · rfl
theorem ent_prep_top {s : WS} {n w top c best b : Nat} (h : Wf s n w) (ht : top < n) (hb : best < n) : (ent (prep s top c best) top b).natAbs = (ent s best b).natAbs := by
  have e1 : ent (swapIf s best top) top b = ent s best b := by
    unfold swapIf
    by_cases e : best = top
    · rw [if_pos e, e]
    · rw [if_neg e]
      show gE (swapL s.r best top) top b = _
      rw [gE_swap (by rw [h.r]; exact hb) (by rw [h.r]; exact ht), if_pos rfl]
      rfl
  rw [← e1]
  unfold prep turnIf
  split
  · show (gE (negL _ top) top b).natAbs = _
    rw [gE_neg (by rw [(wf_swapIf h ht hb).r]; exact ht), if_pos rfl, Int.natAbs_neg]
    rfl
  · rfl
end
end
section
section
theorem best_min {s : WS} {c : Nat} {l : List Nat} {a : Nat} (ha : a ∈ l) : (ent s (bestAt s c l) c).natAbs ≤ (ent s a c).natAbs := by
  obtain ⟨j, hj, rfl⟩ := List.getElem_of_mem ha
  have hb := bestI_ok (ka := fun j => ((ent s (l.getD j 0) c).natAbs : Int)) (kb := fun j => (l.getD j 0 : Int)) (l.length - 1) j (by omega)
  have h := hb.1
  unfold kLess at h
  have e : l.getD j 0 = l[j] := by rw [List.getD_eq_getElem?_getD, List.getElem?_eq_getElem hj]; rfl
  dsimp only at h
  rw [e] at h
  show (ent s (l.getD (bestI (fun j => ((ent s (l.getD j 0) c).natAbs : Int)) (fun j => (l.getD j 0 : Int)) (l.length - 1)) 0) c).natAbs ≤ _
  omega
theorem fdiv_mod {x : Int} {p : Nat} : x - x.fdiv (p : Int) * (p : Int) = x % (p : Int) := by
  have h := Int.mul_fdiv_add_fmod x p
  rw [Int.fmod_eq_emod_of_nonneg x (Int.natCast_nonneg p)] at h
  rw [Int.mul_comm]
  omega
/-- a round seen from its numbers -/
theorem rnd_ent {s : WS} {n w top c : Nat} {l : List Nat} (h : Wf s n w) (ht : top < n) (hb : bestAt s c l < n) : ∀ a j, ent (rnd s top c l) a j = if top < a ∧ a < n then ent (prep s top c (bestAt s c l)) a j - (ent (prep s top c (bestAt s c l)) a c).fdiv ((ent s (bestAt s c l) c).natAbs : Int) * ent (prep s top c (bestAt s c l)) top j else ent (prep s top c (bestAt s c l)) a j := fun a j => by
  unfold rnd
  rw [h.r, ent_subs (lo := top + 1) (wf_prep h ht hb) ht _ (by omega) (by omega), ent_prep h ht hb]
  by_cases ha : top < a ∧ a < n
  · rw [if_pos ha, if_pos (by omega)]
  · rw [if_neg ha, if_neg (by omega)]
structure Euc (s0 u : WS) (n w top c B Z F X : Nat) : Prop where
  wf : Wf u n w
  tp : ent u top c = (X : Int)
  X0 : 0 < X
  low : ∀ a, top < a → a < n → 0 ≤ ent u a c ∧ ent u a c < (X : Int)
  rb : ∀ a, top ≤ a → ∀ j, (ent u a j).natAbs ≤ B * F
  zb : ZB u (Z * F ^ 7)
  abv : ∀ a, a < top → ∀ j, ent u a j = ent s0 a j
  F0 : 0 < F
  fin : F ≤ 6 * B ^ 3
  pot : ∀ P : Nat, (∀ a, top < a → a < n → ent u a c ≠ 0 → (P : Int) ≤ ent u a c) → (∃ a, top < a ∧ a < n ∧ ent u a c ≠ 0) → F * X ^ 2 * P ≤ 3 * B ^ 3
theorem subs_ok {s : WS} {n w top c lo Z f eq er ez : Nat} (h : Wf s n w) (ht : top < n) {k : Nat} (hk : lo + k ≤ n) (hd : top < lo ∨ lo + k ≤ top) (hn : k ≤ 7) (hq : ∀ a, lo ≤ a → a < lo + k → ((ent s a c).fdiv (ent s top c)).natAbs + 1 ≤ f) (hf : f ≤ 2 ^ eq) (hr : ∀ j, (ent s top j).natAbs ≤ 2 ^ er) (z : ZB s Z) (hz : Z * f ^ 7 ≤ 2 ^ ez) (h1 : eq + er + 2 ≤ 134217728) (h2 : eq + ez + 2 ≤ 134217728) : subsOk s top c lo k := fun i hi => by
  have e := ent_subs (c := c) (lo := lo) h ht i (by omega) (by omega)
  have q1 := hq (lo + i) (by omega) (by omega)
  have zz := ZB.subs (lo := lo) (c := c) h ht z i (by omega) (by omega) fun a g1 g2 => hq a g1 (by omega)
  have f1 : 1 ≤ f := by omega
  have zle : Z * f ^ i ≤ 2 ^ ez := Nat.le_trans (Nat.mul_le_mul_left _ (Nat.pow_le_pow_right f1 (by omega))) hz
  have kq : ((ent (subs s top c lo i) (lo + i) c).fdiv (ent (subs s top c lo i) top c)).natAbs ≤ 2 ^ eq := by
    rw [e, e, if_neg (by omega), if_neg (by omega)]
    omega
  refine ⟨gE_all fun j => ?_, gE_all fun j => ?_, gE_all fun j => ?_⟩
  · refine mulOk_bits kq ?_ h1
    show (ent (subs s top c lo i) top j).natAbs ≤ _
    rw [e, if_neg (by omega)]
    exact hr j
  · exact mulOk_bits kq (Nat.le_trans (zz _ _).1 zle) h2
  · exact mulOk_bits (by rw [Int.natAbs_neg]; exact kq) (Nat.le_trans (zz _ _).2 zle) h2
theorem pow7 {Z F f k : Nat} (hf : 0 < f) (hk : k ≤ 7) : Z * F ^ 7 * f ^ k ≤ Z * (F * f) ^ 7 := by
  rw [Nat.mul_pow, ← Nat.mul_assoc]
  exact Nat.mul_le_mul_left _ (Nat.pow_le_pow_right hf hk)
theorem euc_pot {p X P : Nat} (hp : 0 < p) (hpX : p < X) (h : (X % p ≠ 0 ∧ P ≤ X % p) ∨ (X % p = 0 ∧ P < p)) : (p + X) * P ≤ X ^ 2 := by
  have hd := Nat.div_add_mod X p
  have h1 : 1 ≤ X / p := (Nat.le_div_iff_mul_le hp).mpr (by omega)
  rw [Nat.pow_two]
  rcases h with ⟨h0, hP⟩ | ⟨h0, hP⟩
  · have hx : P ≤ X - p := by
      have : p * 1 ≤ p * (X / p) := Nat.mul_le_mul_left p h1
      omega
    obtain ⟨d, rfl⟩ : ∃ d, X = p + d := ⟨X - p, by omega⟩
    have : P ≤ d := by omega
    calc (p + (p + d)) * P ≤ (p + (p + d)) * d := Nat.mul_le_mul_left _ this
      _ ≤ (p + d) * (p + d) := by
        have : (p + (p + d)) * d = p * d + (p * d + d * d) := by rw [Nat.add_mul, Nat.add_mul]
        have e2 : (p + d) * (p + d) = p * p + p * d + (d * p + d * d) := by rw [Nat.add_mul, Nat.mul_add, Nat.mul_add]
        have e3 : d * p = p * d := Nat.mul_comm _ _
        omega
  · have h2 : 2 ≤ X / p := by
      rcases Nat.lt_or_ge (X / p) 2 with h | h
      · have e : X / p = 1 := by omega
        rw [e] at hd
        omega
      · exact h
    have h3 : p * 2 ≤ X := by
      have : p * 2 ≤ p * (X / p) := Nat.mul_le_mul_left p h2
      omega
    calc (p + X) * P ≤ (p + X) * p := Nat.mul_le_mul_left _ (Nat.le_of_lt hP)
      _ ≤ X * X := by
        obtain ⟨d, rfl⟩ : ∃ d, X = p + d := ⟨X - p, by omega⟩
        have hd : p ≤ d := by omega
        have e1 : (p + (p + d)) * p = p * p + (p * p + d * p) := by rw [Nat.add_mul, Nat.add_mul]
        have e2 : (p + d) * (p + d) = p * p + p * d + (d * p + d * d) := by rw [Nat.add_mul, Nat.mul_add, Nat.mul_add]
        have e3 : p * p ≤ p * d := Nat.mul_le_mul_left p hd
        omega
end
section
theorem div_le {q p x R : Nat} (hp : 0 < p) (h : (q + 1) * p ≤ R) : q + 1 ≤ R / p := (Nat.le_div_iff_mul_le hp).mpr h
theorem fdiv_small {x : Int} {p : Nat} (hp : 0 < p) : (x.fdiv (p : Int)).natAbs * p ≤ x.natAbs + (p - 1) := by
  have h := fdiv_mod (x := x) (p := p)
  have h1 := Int.emod_nonneg x (show (p : Int) ≠ 0 by omega)
  have h2 := Int.emod_lt_of_pos x (show (0 : Int) < (p : Int) by omega)
  have e : ((x.fdiv (p : Int)).natAbs * p : Nat) = ((x.fdiv (p : Int)) * (p : Int)).natAbs := by
    rw [Int.natAbs_mul, Int.natAbs_natCast]
  rw [e]
  omega
theorem fdiv_pos {x : Int} {p : Nat} (hp : 0 < p) (hx : 0 ≤ x) : (x.fdiv (p : Int)).natAbs * p ≤ x.natAbs := by
  have h := fdiv_mod (x := x) (p := p)
  have h1 := Int.emod_nonneg x (show (p : Int) ≠ 0 by omega)
  have h0 : 0 ≤ x.fdiv (p : Int) := Int.fdiv_nonneg hx (by omega)
  have e : ((x.fdiv (p : Int)).natAbs * p : Nat) = ((x.fdiv (p : Int)) * (p : Int)).natAbs := by
    rw [Int.natAbs_mul, Int.natAbs_natCast]
  rw [e]
  have h3 : 0 ≤ x.fdiv (p : Int) * (p : Int) := Int.mul_nonneg h0 (by omega)
  omega
/-- one round: the new numbers, by a factor f of the quotients -/
theorem round {s0 u : WS} {n w top c B Z F f R : Nat} {l : List Nat} (hw : Wf u n w) (ht : top < n) (hn : n ≤ 8) (hl : l ≠ []) (hm : ∀ a ∈ l, top ≤ a ∧ a < n ∧ ent u a c ≠ 0) (rb : ∀ a, top ≤ a → ∀ j, (ent u a j).natAbs ≤ B * F) (zb : ZB u (Z * F ^ 7)) (abv : ∀ a, a < top → ∀ j, ent u a j = ent s0 a j) (F0 : 0 < F)
    (hq : ∀ a, top < a → a < n → ((ent (prep u top c (bestAt u c l)) a c).fdiv ((ent u (bestAt u c l) c).natAbs : Int)).natAbs + 1 ≤ f) (f0 : 0 < f) :
    Wf (rnd u top c l) n w ∧ ent (rnd u top c l) top c = ((ent u (bestAt u c l) c).natAbs : Int) ∧ (∀ a, top < a → a < n → ent (rnd u top c l) a c = ent (prep u top c (bestAt u c l)) a c % ((ent u (bestAt u c l) c).natAbs : Int)) ∧ (∀ a, top ≤ a → ∀ j, (ent (rnd u top c l) a j).natAbs ≤ B * (F * f)) ∧ ZB (rnd u top c l) (Z * (F * f) ^ 7) ∧ (∀ a, a < top → ∀ j, ent (rnd u top c l) a j = ent s0 a j) := by
  have hb := hm _ (bestAt_mem (s := u) (c := c) hl)
  have hwp := wf_prep (c := c) hw ht hb.2.1
  have re := rnd_ent (c := c) (l := l) hw ht hb.2.1
  have ep := ent_prep (c := c) hw ht hb.2.1
  have pn : ∀ a, a ≠ top → ∀ j, ent (prep u top c (bestAt u c l)) a j = if a = bestAt u c l then ent u top j else ent u a j := fun a ha j => ent_prep_ne hw ht hb.2.1 ha
  have pb : ∀ a, top ≤ a → ∀ j, (ent (prep u top c (bestAt u c l)) a j).natAbs ≤ B * F := fun a ha j => by
    by_cases e : a = top
    · subst e
      rw [ent_prep_top hw ht hb.2.1]
      exact rb _ hb.1 j
    · rw [pn a e]
      split
      · exact rb _ (Nat.le_refl _) j
      · exact rb a ha j
  refine ⟨?_, ?_, fun a h1 h2 => ?_, fun a ha j => ?_, ?_, fun a ha j => ?_⟩
  · unfold rnd
    rw [hw.r]
    exact wf_subs hwp ht _ (by omega)
  · rw [re, if_neg (by omega), ep]
  · rw [re, if_pos ⟨h1, h2⟩, ep, fdiv_mod]
  · rw [re, ← Nat.mul_assoc]
    split
    · rename_i h
      exact abs_less (pb a ha j) (pb top (Nat.le_refl _) j) (hq a h.1 h.2)
    · exact Nat.le_trans (pb a ha j) (Nat.le_mul_of_pos_right _ f0)
  · unfold rnd
    rw [hw.r]
    refine (ZB.subs (lo := top + 1) (c := c) (f := f) hwp ht (zb.prep hw ht hb.2.1) (n - (top + 1)) (by omega) (by omega) fun a g1 g2 => ?_).mono (pow7 f0 (by omega))
    rw [ep]
    exact hq a (by omega) (by omega)
  · rw [re, if_neg (by omega), pn a (by omega), if_neg (by omega)]
    exact abv a ha j
theorem Euc.step {s0 u : WS} {n w top c B Z F X : Nat} (h : Euc s0 u n w top c B Z F X) (ht : top < n) (hn : n ≤ 8) (hne : bl u (top + 1) c ≠ []) :
    ∃ F' X', X' < X ∧ F ≤ F' ∧ Euc s0 (rnd u top c (bl u (top + 1) c)) n w top c B Z F' X' ∧ ∀ a, top < a → a < n → ((ent (prep u top c (bestAt u c (bl u (top + 1) c))) a c).fdiv ((ent u (bestAt u c (bl u (top + 1) c)) c).natAbs : Int)).natAbs + 1 ≤ F' / F := by
  have hl : ∀ a ∈ bl u (top + 1) c, top ≤ a ∧ a < n ∧ ent u a c ≠ 0 := fun a ha => by
    have := bl_mem.mp ha
    rw [h.wf.r] at this
    exact ⟨by omega, this.2⟩
  have hb0 := bl_mem.mp (bestAt_mem (s := u) (c := c) hne)
  rw [h.wf.r] at hb0
  generalize hbb : bestAt u c (bl u (top + 1) c) = bb at hb0 ⊢
  have hlow := h.low bb (by omega) hb0.2.1
  obtain ⟨p, hp⟩ : ∃ p : Nat, (ent u bb c).natAbs = p := ⟨_, rfl⟩
  have hpe : ent u bb c = (p : Int) := by omega
  have hp0 : 0 < p := by have := hb0.2.2; omega
  have hpX : p < X := by omega
  have hmin : ∀ a, top < a → a < n → ent u a c ≠ 0 → (p : Int) ≤ ent u a c := fun a h1 h2 h3 => by
    have := best_min (s := u) (c := c) (l := bl u (top + 1) c) (bl_mem.mpr ⟨by omega, by rw [h.wf.r]; exact h2, h3⟩)
    rw [hbb, hp] at this
    have := (h.low a h1 h2).1
    omega
  have hpot := h.pot p hmin ⟨bb, by omega, hb0.2.1, hb0.2.2⟩
  have pn : ∀ a, a ≠ top → ∀ j, ent (prep u top c bb) a j = if a = bb then ent u top j else ent u a j := fun a ha j => ent_prep_ne h.wf ht hb0.2.1 ha
  have prange : ∀ a, top < a → a < n → 0 ≤ ent (prep u top c bb) a c ∧ ent (prep u top c bb) a c ≤ (X : Int) := fun a h1 h2 => by
    rw [pn a (by omega)]
    split
    · rw [h.tp]; omega
    · have := h.low a h1 h2; omega
  have f1 : 1 ≤ (p + X) / p := (Nat.le_div_iff_mul_le hp0).mpr (by omega)
  have fp : (p + X) / p * p ≤ p + X := Nat.div_mul_le_self _ _
  have hq : ∀ a, top < a → a < n → ((ent (prep u top c bb) a c).fdiv (p : Int)).natAbs + 1 ≤ (p + X) / p := fun a h1 h2 => by
    have := prange a h1 h2
    refine div_le (x := 0) hp0 ?_
    have := fdiv_pos (x := ent (prep u top c bb) a c) hp0 this.1
    rw [Nat.add_mul, Nat.one_mul]
    omega
  have rr := round (s0 := s0) (f := (p + X) / p) (R := 0) (l := bl u (top + 1) c) (c := c) h.wf ht hn hne hl h.rb h.zb h.abv h.F0 (by rw [hbb, hp]; exact hq) f1
  rw [hbb, hp] at rr
  obtain ⟨r1, r2, r3, r4, r5, r6⟩ := rr
  refine ⟨F * ((p + X) / p), p, hpX, Nat.le_mul_of_pos_right _ f1, ⟨r1, r2, hp0, fun a h1 h2 => ?_, r4, r5, r6, Nat.mul_pos h.F0 f1, ?_, fun P hP hex => ?_⟩, fun a h1 h2 => ?_⟩
  · rw [r3 a h1 h2]
    exact ⟨Int.emod_nonneg _ (by omega), Int.emod_lt_of_pos _ (by omega)⟩
  · have e1 : (p + X) / p ≤ 2 * X := Nat.le_trans (Nat.div_le_self _ _) (by omega)
    have e2 : X ≤ X ^ 2 * p := by
      rw [Nat.pow_two, Nat.mul_assoc]
      exact Nat.le_mul_of_pos_right _ (Nat.mul_pos h.X0 hp0)
    calc F * ((p + X) / p) ≤ F * (2 * X) := Nat.mul_le_mul_left _ e1
      _ ≤ F * (2 * (X ^ 2 * p)) := Nat.mul_le_mul_left _ (Nat.mul_le_mul_left _ e2)
      _ = 2 * (F * X ^ 2 * p) := by rw [Nat.mul_left_comm, Nat.mul_assoc]
      _ ≤ 6 * B ^ 3 := by omega
  · have hPp : P < p := by
      obtain ⟨a, h1, h2, h3⟩ := hex
      have := hP a h1 h2 h3
      rw [r3 a h1 h2] at this
      have := Int.emod_lt_of_pos (ent (prep u top c bb) a c) (show (0 : Int) < (p : Int) by omega)
      omega
    have key : (p + X) * P ≤ X ^ 2 := by
      refine euc_pot hp0 hpX ?_
      by_cases h0 : X % p = 0
      · exact .inr ⟨h0, hPp⟩
      · refine .inl ⟨h0, ?_⟩
        have e : ent (rnd u top c (bl u (top + 1) c)) bb c = ((X % p : Nat) : Int) := by
          rw [r3 bb (by omega) hb0.2.1, pn bb (by omega), if_pos rfl, h.tp]
          exact (Int.natCast_emod X p).symm
        have := hP bb (by omega) hb0.2.1 (by rw [e]; omega)
        rw [e] at this
        omega
    calc F * ((p + X) / p) * p ^ 2 * P = F * p * P * ((p + X) / p * p) := by
          rw [Nat.pow_two]
          simp only [Nat.mul_assoc, Nat.mul_left_comm, Nat.mul_comm]
      _ ≤ F * p * P * (p + X) := Nat.mul_le_mul_left _ fp
      _ = F * p * ((p + X) * P) := by simp only [Nat.mul_assoc, Nat.mul_left_comm, Nat.mul_comm]
      _ ≤ F * p * X ^ 2 := Nat.mul_le_mul_left _ key
      _ = F * X ^ 2 * p := by simp only [Nat.mul_assoc, Nat.mul_left_comm, Nat.mul_comm]
      _ ≤ 3 * B ^ 3 := hpot
  · rw [hp, Nat.mul_div_cancel_left _ h.F0]
    exact hq a h1 h2
end
end
section
section
/-- what lets all products through -/
structure Szs (B Z eB eZ : Nat) : Prop where
  b : 6 * B ^ 3 ≤ 2 ^ eB
  r : B * (6 * B ^ 3) ≤ 2 ^ eB
  z : Z * (6 * B ^ 3) ^ 7 ≤ 2 ^ eZ
  s1 : eB + eB + 2 ≤ 134217728
  s2 : eB + eZ + 2 ≤ 134217728
theorem rnd_ok {u : WS} {n w top c B Z F f eB eZ best : Nat} (S : Szs B Z eB eZ) (hw : Wf u n w) (ht : top < n) (hn : n ≤ 8) (hb : best < n) (htb : top ≤ best) (rb : ∀ a, top ≤ a → ∀ j, (ent u a j).natAbs ≤ B * F) (zb : ZB u (Z * F ^ 7)) (F0 : 0 < F) (f0 : 0 < f)
    (hq : ∀ a, top < a → a < n → ((ent (prep u top c best) a c).fdiv ((ent u best c).natAbs : Int)).natAbs + 1 ≤ f) (hF : F * f ≤ 6 * B ^ 3) : subsOk (prep u top c best) top c (top + 1) (n - (top + 1)) := by
  have hFF : F ≤ 6 * B ^ 3 := Nat.le_trans (Nat.le_mul_of_pos_right _ f0) hF
  have hf : f ≤ 6 * B ^ 3 := Nat.le_trans (Nat.le_mul_of_pos_left _ F0) hF
  refine subs_ok (Z := Z * F ^ 7) (f := f) (eq := eB) (er := eB) (ez := eZ) (wf_prep hw ht hb) ht (by omega) (by omega) (by omega) (fun a h1 h2 => by rw [ent_prep hw ht hb]; exact hq a (by omega) (by omega)) (Nat.le_trans hf S.b) (fun j => ?_) (zb.prep hw ht hb) ?_ S.s1 S.s2
  · rw [ent_prep_top hw ht hb]
    exact Nat.le_trans (rb best htb j) (Nat.le_trans (Nat.mul_le_mul_left _ hFF) S.r)
  · refine Nat.le_trans (pow7 f0 (Nat.le_refl 7)) (Nat.le_trans (Nat.mul_le_mul_left _ (Nat.pow_le_pow_left hF 7)) S.z)
theorem euc_run {s : WS} {n w top c B Z eB eZ : Nat} (S : Szs B Z eB eZ) (ht : top < n) (hn : n ≤ 8) : ∀ (X i F : Nat), Euc s (itr s top c i).1 n w top c B Z F X → (itr s top c i).2 = bl (itr s top c i).1 (top + 1) c →
    ∃ m F' X', i ≤ m ∧ (itr s top c m).2 = [] ∧ (∀ j, i ≤ j → j < m → (itr s top c j).2 ≠ [] ∧ subsOk (prep (itr s top c j).1 top c (bestAt (itr s top c j).1 c (itr s top c j).2)) top c (top + 1) (n - (top + 1))) ∧ Euc s (itr s top c m).1 n w top c B Z F' X' ∧ (itr s top c m).2 = bl (itr s top c m).1 (top + 1) c := fun X => by
  induction X using Nat.strongRecOn with
  | _ X ih =>
    intro i F h hl
    by_cases hne : (itr s top c i).2 = []
    · exact ⟨i, F, X, Nat.le_refl _, hne, fun j h1 h2 => by omega, h, hl⟩
    · have hne' : bl (itr s top c i).1 (top + 1) c ≠ [] := hl ▸ hne
      obtain ⟨F', X', hX, hF, h', hq⟩ := h.step ht hn hne'
      rw [← hl] at h' hq
      obtain ⟨m, F2, X2, hm, hm2, hm3, hm4, hm5⟩ := ih X' hX (i + 1) F' h' rfl
      refine ⟨m, F2, X2, by omega, hm2, fun j h1 h2 => ?_, hm4, hm5⟩
      by_cases e : j = i
      · subst e
        refine ⟨hne, ?_⟩
        have hb := itr_mem j _ (bestAt_mem (s := (itr s top c j).1) (c := c) hne)
        rw [h.wf.r] at hb
        refine rnd_ok (f := F' / F) S h.wf ht hn hb.2.1 hb.1 h.rb h.zb h.F0 ?_ hq ?_
        · exact (Nat.le_div_iff_mul_le h.F0).mpr (by omega)
        · exact Nat.le_trans (Nat.mul_div_le F' F) h'.fin
      · exact hm3 j (by omega) h2
/-- a column's end -/
structure ColEnd (s s' : WS) (n w top c B Z : Nat) : Prop where
  wf : Wf s' n w
  tp : 0 ≤ ent s' top c
  low : ∀ a, top < a → a < n → ent s' a c = 0
  rb : ∀ a, top ≤ a → ∀ j, (ent s' a j).natAbs ≤ B * (6 * B ^ 3)
  zb : ZB s' (Z * (6 * B ^ 3) ^ 7)
  abv : ∀ a, a < top → ∀ j, ent s' a j = ent s a j
theorem bl_nil {s : WS} {n w lo c : Nat} (h : Wf s n w) (hl : bl s lo c = []) : ∀ a, lo ≤ a → a < n → ent s a c = 0 := fun a h1 h2 => by
  by_cases e : ent s a c = 0
  · exact e
  · have := (bl_mem (s := s) (lo := lo) (c := c) (at_ := a)).mpr ⟨h1, by rw [h.r]; exact h2, e⟩
    rw [hl] at this
    simp at this
theorem col_ok {s : WS} {n w top c B Z eB eZ : Nat} (S : Szs B Z eB eZ) (h : Wf s n w) (ht : top < n) (hc : c < w) (hn : n ≤ 8) (B0 : 0 < B) (rb : ∀ a, top ≤ a → ∀ j, (ent s a j).natAbs ≤ B) (zb : ZB s Z) :
    ∃ m, clearOk s n w top c m ∧ ColEnd s (itr s top c m).1 n w top c B Z := by
  have B3 : 1 ≤ 6 * B ^ 3 := Nat.mul_pos (by decide) (Nat.pow_pos B0)
  by_cases hne : bl s top c = []
  · refine ⟨0, ⟨h, ht, hc, hne, fun i hi => by omega⟩, h, ?_, fun a h1 h2 => bl_nil h hne a (by omega) h2, fun a ha j => Nat.le_trans (rb a ha j) (Nat.le_mul_of_pos_right _ B3), zb.mono (Nat.le_mul_of_pos_right _ (Nat.pow_pos B3)), fun _ _ _ => rfl⟩
    show 0 ≤ ent s top c
    rw [bl_nil h hne top (Nat.le_refl _) ht]
    exact Int.le_refl 0
  · have hl : ∀ a ∈ bl s top c, top ≤ a ∧ a < n ∧ ent s a c ≠ 0 := fun a ha => by
      have := bl_mem.mp ha
      rw [h.r] at this
      exact this
    have hb0 := hl _ (bestAt_mem (s := s) (c := c) hne)
    obtain ⟨p, hp⟩ : ∃ p : Nat, (ent s (bestAt s c (bl s top c)) c).natAbs = p := ⟨_, rfl⟩
    have hp0 : 0 < p := by have := hb0.2.2; omega
    have hpB : p ≤ B := by rw [← hp]; exact rb _ hb0.1 c
    have hmin : ∀ a, top ≤ a → a < n → ent s a c ≠ 0 → p ≤ (ent s a c).natAbs := fun a h1 h2 h3 => by
      rw [← hp]
      exact best_min (bl_mem.mpr ⟨h1, by rw [h.r]; exact h2, h3⟩)
    have pn : ∀ a, a ≠ top → ∀ j, ent (prep s top c (bestAt s c (bl s top c))) a j = if a = bestAt s c (bl s top c) then ent s top j else ent s a j := fun a ha j => ent_prep_ne h ht hb0.2.1 ha
    have pr : ∀ a, top < a → a < n → (ent (prep s top c (bestAt s c (bl s top c))) a c).natAbs ≤ B ∧ (ent (prep s top c (bestAt s c (bl s top c))) a c ≠ 0 → p ≤ (ent (prep s top c (bestAt s c (bl s top c))) a c).natAbs) := fun a h1 h2 => by
      rw [pn a (by omega)]
      split
      · exact ⟨rb _ (Nat.le_refl _) c, fun z => hmin _ (Nat.le_refl _) ht z⟩
      · exact ⟨rb a (by omega) c, fun z => hmin a (by omega) h2 z⟩
    have f1 : 1 ≤ 3 * B / p := (Nat.le_div_iff_mul_le hp0).mpr (by omega)
    have hq : ∀ a, top < a → a < n → ((ent (prep s top c (bestAt s c (bl s top c))) a c).fdiv (p : Int)).natAbs + 1 ≤ 3 * B / p := fun a h1 h2 => by
      have h3 := pr a h1 h2
      refine div_le (x := 0) hp0 ?_
      have := fdiv_small (x := ent (prep s top c (bestAt s c (bl s top c))) a c) hp0
      rw [Nat.add_mul, Nat.one_mul]
      omega
    have rr := round (s0 := s) (F := 1) (B := B) (Z := Z) (f := 3 * B / p) (R := 0) (l := bl s top c) (c := c) h ht hn hne hl (by simpa using rb) (by simpa using zb) (fun _ _ _ => rfl) (by decide) (by rw [hp]; exact hq) f1
    rw [hp, Nat.one_mul] at rr
    obtain ⟨r1, r2, r3, r4, r5, r6⟩ := rr
    have fB : 3 * B / p * p ≤ 3 * B := Nat.div_mul_le_self _ _
    have f2 : 3 * B / p ≤ 3 * B := Nat.div_le_self _ _
    have B2 : B ≤ B ^ 3 := by
      rw [Nat.pow_succ]
      exact Nat.le_mul_of_pos_left _ (Nat.pow_pos B0)
    have E1 : Euc s (itr s top c 1).1 n w top c B Z (3 * B / p) p := by
      refine ⟨r1, r2, hp0, fun a h1 h2 => ?_, r4, r5, r6, f1, by omega, fun P hP hex => ?_⟩
      · show 0 ≤ ent (rnd s top c (bl s top c)) a c ∧ ent (rnd s top c (bl s top c)) a c < _
        rw [r3 a h1 h2]
        exact ⟨Int.emod_nonneg _ (by omega), Int.emod_lt_of_pos _ (by omega)⟩
      · have hPp : P ≤ B := by
          obtain ⟨a, h1, h2, h3⟩ := hex
          have h4 := hP a h1 h2 h3
          have e : ent (itr s top c 1).1 a c = _ := r3 a h1 h2
          rw [e] at h4
          have := Int.emod_lt_of_pos (ent (prep s top c (bestAt s c (bl s top c))) a c) (show (0 : Int) < (p : Int) by omega)
          omega
        calc 3 * B / p * p ^ 2 * P = 3 * B / p * p * (p * P) := by
              rw [Nat.pow_two]
              simp only [Nat.mul_assoc, Nat.mul_left_comm, Nat.mul_comm]
          _ ≤ 3 * B * (p * P) := Nat.mul_le_mul_right _ fB
          _ ≤ 3 * B * (B * B) := Nat.mul_le_mul_left _ (Nat.mul_le_mul hpB hPp)
          _ = 3 * B ^ 3 := by
            rw [show B ^ 3 = B * B * B by rw [Nat.pow_succ, Nat.pow_two]]
            simp only [Nat.mul_assoc]
    obtain ⟨m, F', X', hm, hm2, hm3, hm4, hm5⟩ := euc_run S ht hn p 1 (3 * B / p) E1 rfl
    refine ⟨m, ⟨h, ht, hc, hm2, fun i hi => ?_⟩, hm4.wf, by rw [hm4.tp]; omega, fun a h1 h2 => bl_nil hm4.wf (hm5 ▸ hm2) a (by omega) h2, fun a ha j => Nat.le_trans (hm4.rb a ha j) (Nat.mul_le_mul_left _ hm4.fin), hm4.zb.mono (Nat.mul_le_mul_left _ (Nat.pow_le_pow_left hm4.fin 7)), hm4.abv⟩
    by_cases e : i = 0
    · subst e
      refine ⟨hne, ?_⟩
      show subsOk (prep s top c (bestAt s c (bl s top c))) top c (top + 1) (n - (top + 1))
      refine rnd_ok (F := 1) (f := 3 * B / p) S h ht hn hb0.2.1 hb0.1 (by simpa using rb) (by simpa using zb) (by decide) f1 (by rw [hp]; exact hq) ?_
      rw [Nat.one_mul]
      omega
    · exact hm3 i (by omega) hi
end
end
section
section
/-- by steps -/
inductive Reach (n w : Nat) (s0 : WS) : WS → Prop
  | refl : Reach n w s0 s0
  | swap {s : WS} {i j : Nat} (h : Reach n w s0 s) (hw : Wf s n w) (hi : i < n) (hj : j < n) (hij : i ≠ j) : Reach n w s0 (s.swap i j)
  | turn {s : WS} {i : Nat} (h : Reach n w s0 s) (hw : Wf s n w) (hi : i < n) : Reach n w s0 (s.turn i)
  | take {s : WS} {i j : Nat} {k : Int} (h : Reach n w s0 s) (hw : Wf s n w) (hi : i < n) (hj : j < n) (hij : i ≠ j) : Reach n w s0 (s.take i k j)
theorem Reach.trans {n w : Nat} {s0 s1 s2 : WS} (h : Reach n w s0 s1) (h2 : Reach n w s1 s2) : Reach n w s0 s2 := by
  induction h2 with
  | refl => exact h
  | swap _ hw hi hj hij ih => exact ih.swap hw hi hj hij
  | turn _ hw hi ih => exact ih.turn hw hi
  | take _ hw hi hj hij ih => exact ih.take hw hi hj hij
theorem reach_prep {s : WS} {n w top c best : Nat} (h : Wf s n w) (ht : top < n) (hb : best < n) : Reach n w s (prep s top c best) := by
  have h1 : Reach n w s (swapIf s best top) := by
    unfold swapIf
    split
    · exact .refl
    · rename_i e
      exact Reach.refl.swap h hb ht e
  unfold prep turnIf
  split
  · exact h1.turn (wf_swapIf h ht hb) ht
  · exact h1
theorem reach_subs {s : WS} {n w top c lo : Nat} (h : Wf s n w) (ht : top < n) : ∀ k, lo + k ≤ n → (top < lo ∨ lo + k ≤ top) → Reach n w s (subs s top c lo k)
  | 0, _, _ => .refl
  | k + 1, hk, hd => (reach_subs h ht k (by omega) (by omega)).take (wf_subs h ht k (by omega)) (by omega) ht (by omega)
theorem reach_itr {s : WS} {n w top c : Nat} (h : Wf s n w) (ht : top < n) : ∀ i, (∀ j, j < i → (itr s top c j).2 ≠ []) → Reach n w s (itr s top c i).1
  | 0, _ => .refl
  | i + 1, hj => by
    have hw := wf_itr (c := c) h ht i fun j hj' => hj j (by omega)
    have hb := itr_mem i _ (bestAt_mem (c := c) (s := (itr s top c i).1) (hj i (by omega)))
    rw [hw.r] at hb
    refine ((reach_itr h ht i fun j hj' => hj j (by omega)).trans (reach_prep (c := c) hw ht hb.2.1)).trans ?_
    show Reach n w _ (rnd _ top c _)
    unfold rnd
    rw [hw.r]
    exact reach_subs (wf_prep hw ht hb.2.1) ht _ (by omega) (by omega)
/-- zeros of a column stay -/
theorem itr_zero {s : WS} {n w top c j : Nat} (h : Wf s n w) (ht : top < n) (hz : ∀ a, top ≤ a → ent s a j = 0) : ∀ i, (∀ k, k < i → (itr s top c k).2 ≠ []) → ∀ a, top ≤ a → ent (itr s top c i).1 a j = 0
  | 0, _ => hz
  | i + 1, hk => by
    have hw := wf_itr (c := c) h ht i fun j hj' => hk j (by omega)
    have ih := itr_zero h ht hz i fun j hj' => hk j (by omega)
    have hb := itr_mem i _ (bestAt_mem (c := c) (s := (itr s top c i).1) (hk i (by omega)))
    rw [hw.r] at hb
    have pz : ∀ a, top ≤ a → ent (prep (itr s top c i).1 top c (bestAt (itr s top c i).1 c (itr s top c i).2)) a j = 0 := fun a ha => by
      by_cases e : a = top
      · subst e
        have := ent_prep_top (c := c) (b := j) hw ht hb.2.1
        rw [ih _ hb.1] at this
        exact Int.natAbs_eq_zero.mp this
      · rw [ent_prep_ne hw ht hb.2.1 e]
        split
        · exact ih _ (Nat.le_refl _)
        · exact ih a ha
    intro a ha
    show ent (rnd _ top c _) a j = 0
    rw [rnd_ent hw ht hb.2.1, pz a ha, pz top (Nat.le_refl _)]
    split <;> simp
/-- numbers outside are 0 -/
theorem ent_out {s : WS} {n w i j : Nat} (h : Wf s n w) (hi : n ≤ i) : ent s i j = 0 := by
  unfold ent
  rw [List.getD_eq_getElem?_getD (l := s.r), List.getElem?_eq_none (by rw [h.r]; exact hi)]
  rfl
/-- the form of the columns behind -/
structure Ech (s : WS) (n top c : Nat) (pc : Nat → Nat) : Prop where
  lt : ∀ i, i < top → pc i < c
  inc : ∀ i j, i < j → j < top → pc i < pc j
  left : ∀ i, i < top → ∀ j, j < pc i → ent s i j = 0
  pos : ∀ i, i < top → 0 < ent s i (pc i)
  abv : ∀ k i, k < i → i < top → 0 ≤ ent s k (pc i) ∧ ent s k (pc i) < ent s i (pc i)
  low : ∀ i, top ≤ i → ∀ j, j < c → ent s i j = 0
theorem Ech.next {s : WS} {n w top c m B Z : Nat} {pc : Nat → Nat} (e : Ech s n top c pc) (h : Wf s n w) (ho : clearOk s n w top c m) (ce : ColEnd s (itr s top c m).1 n w top c B Z) :
    ∃ pc', Ech (colStep (s, top) n c m).1 n (colStep (s, top) n c m).2 (c + 1) pc' := by
  obtain ⟨_, ht, hc, hm, hir⟩ := ho
  have z := fun j hj => itr_zero (c := c) (j := j) h ht (fun a ha => e.low a ha j hj) m fun k hk => (hir k hk).1
  unfold colStep
  rw [if_pos ht]
  show ∃ pc', Ech (if ent (itr s top c m).1 top c ≠ 0 then (subs (itr s top c m).1 top c 0 top, top + 1) else ((itr s top c m).1, top) : WS × Nat).1 n (if ent (itr s top c m).1 top c ≠ 0 then (subs (itr s top c m).1 top c 0 top, top + 1) else ((itr s top c m).1, top) : WS × Nat).2 (c + 1) pc'
  generalize hs1 : (itr s top c m).1 = u at ce z
  have lowc : ∀ i, top < i → ent u i c = 0 := fun i h1 => by
    by_cases h2 : i < n
    · exact ce.low i h1 h2
    · exact ent_out ce.wf (by omega)
  by_cases hp : ent u top c = 0
  · rw [if_neg (fun z => z hp)]
    refine ⟨pc, fun i hi => Nat.lt_succ_of_lt (e.lt i hi), e.inc, fun i hi j hj => by rw [ce.abv i hi]; exact e.left i hi j hj, fun i hi => by rw [ce.abv i hi]; exact e.pos i hi, fun k i hk hi => by rw [ce.abv i hi, ce.abv k (by omega)]; exact e.abv k i hk hi, fun i hi j hj => ?_⟩
    by_cases hjc : j < c
    · exact z j hjc i hi
    · have : j = c := by omega
      subst this
      by_cases hit : i = top
      · rw [hit]; exact hp
      · exact lowc i (by show top < i; have : top ≤ i := hi; omega)
  · rw [if_pos hp]
    have pv : 0 < ent u top c := by have := ce.tp; omega
    have es := ent_subs (c := c) (lo := 0) ce.wf ht top (by omega) (.inr (by omega))
    have eb : ∀ a, top ≤ a → ∀ b, ent (subs u top c 0 top) a b = ent u a b := fun a ha b => by rw [es, if_neg (by omega)]
    have ea : ∀ a, a < top → ∀ b, b < c → ent (subs u top c 0 top) a b = ent s a b := fun a ha b hb => by
      rw [es, if_pos (by omega), z b hb top (Nat.le_refl _), Int.mul_zero, Int.sub_zero, ce.abv a ha]
    refine ⟨fun i => if i = top then c else pc i, fun i hi => ?_, fun i j hij hj => ?_, fun i hi j hj => ?_, fun i hi => ?_, fun k i hk hi => ?_, fun i hi j hj => ?_⟩
    · show (if i = top then c else pc i) < c + 1
      split
      · omega
      · have := e.lt i (by have : i < top + 1 := hi; omega)
        omega
    · have hj' : j < top + 1 := hj
      show (if i = top then c else pc i) < (if j = top then c else pc j)
      rw [if_neg (by omega)]
      split
      · exact e.lt i (by omega)
      · exact e.inc i j hij (by omega)
    · have hi' : i < top + 1 := hi
      have hj' : j < (if i = top then c else pc i) := hj
      show ent (subs u top c 0 top) i j = 0
      by_cases hit : i = top
      · rw [if_pos hit] at hj'
        rw [hit, eb top (Nat.le_refl _)]
        exact z j hj' top (Nat.le_refl _)
      · rw [if_neg hit] at hj'
        have := e.lt i (by omega)
        rw [ea i (by omega) j (by omega)]
        exact e.left i (by omega) j hj'
    · have hi' : i < top + 1 := hi
      show 0 < ent (subs u top c 0 top) i (if i = top then c else pc i)
      by_cases hit : i = top
      · rw [if_pos hit, hit, eb top (Nat.le_refl _)]
        exact pv
      · rw [if_neg hit, ea i (by omega) _ (e.lt i (by omega))]
        exact e.pos i (by omega)
    · have hi' : i < top + 1 := hi
      show 0 ≤ ent (subs u top c 0 top) k (if i = top then c else pc i) ∧ ent (subs u top c 0 top) k (if i = top then c else pc i) < ent (subs u top c 0 top) i (if i = top then c else pc i)
      by_cases hit : i = top
      · rw [if_pos hit, hit, eb top (Nat.le_refl _), es, if_pos (by omega)]
        obtain ⟨p, hpe⟩ : ∃ p : Nat, ent u top c = (p : Int) := ⟨(ent u top c).toNat, by omega⟩
        rw [hpe, fdiv_mod]
        exact ⟨Int.emod_nonneg _ (by omega), Int.emod_lt_of_pos _ (by omega)⟩
      · rw [if_neg hit, ea k (by omega) _ (e.lt i (by omega)), ea i (by omega) _ (e.lt i (by omega))]
        exact e.abv k i hk (by omega)
    · have hi' : top + 1 ≤ i := hi
      show ent (subs u top c 0 top) i j = 0
      rw [eb i (by omega)]
      by_cases hjc : j < c
      · exact z j hjc i (by omega)
      · have : j = c := by omega
        subst this
        exact lowc i (by omega)
end
end
section
section
def nb : Nat → Nat × Nat × Nat
  | 0 => (20, 20, 0)
  | c + 1 => let u := nb c; (4 * u.1 + 3, u.2.1 + (4 * u.1 + 3) + 1, u.2.2 + 7 * (3 * u.1 + 3) + 7 * (u.2.1 + 1))
theorem nb_ok : ∀ c, c < 8 → (4 * (nb c).1 + 3) + (4 * (nb c).1 + 3) + 2 ≤ 134217728 ∧ (4 * (nb c).1 + 3) + ((nb c).2.2 + 7 * (3 * (nb c).1 + 3)) + 2 ≤ 134217728 ∧ ((nb c).2.1 + 1) + (4 * (nb c).1 + 3) + 2 ≤ 134217728 ∧ ((nb c).2.1 + 1) + ((nb c).2.2 + 7 * (3 * (nb c).1 + 3) + 7 * ((nb c).2.1 + 1)) + 2 ≤ 134217728 := by decide
structure Cst (a : List (List Int)) (c : Nat) (u : WS × Nat) : Prop where
  wf : Wf u.1 a.length (wd a)
  tp : u.2 ≤ a.length
  rch : Reach a.length (wd a) (wsOf a) u.1
  ech : ∃ pc, Ech u.1 a.length u.2 c pc
  rb : ∀ i, u.2 ≤ i → ∀ j, (ent u.1 i j).natAbs ≤ 2 ^ (nb c).1
  ab : ∀ i j, (ent u.1 i j).natAbs ≤ 2 ^ (nb c).2.1
  zb : ZB u.1 (2 ^ (nb c).2.2)
theorem six {b : Nat} : 6 * (2 ^ b) ^ 3 ≤ 2 ^ (3 * b + 3) := by
  rw [← Nat.pow_mul, Nat.pow_add, Nat.mul_comm b 3]
  have : 0 < 2 ^ (3 * b) := Nat.pow_pos (by decide)
  omega
theorem szs_of {b z : Nat} (h1 : (4 * b + 3) + (4 * b + 3) + 2 ≤ 134217728) (h2 : (4 * b + 3) + (z + 7 * (3 * b + 3)) + 2 ≤ 134217728) : Szs (2 ^ b) (2 ^ z) (4 * b + 3) (z + 7 * (3 * b + 3)) := by
  refine ⟨Nat.le_trans six (Nat.pow_le_pow_right (by decide) (by omega)), ?_, ?_, h1, h2⟩
  · calc 2 ^ b * (6 * (2 ^ b) ^ 3) ≤ 2 ^ b * 2 ^ (3 * b + 3) := Nat.mul_le_mul_left _ six
      _ = 2 ^ (4 * b + 3) := by rw [← Nat.pow_add]; congr 1; omega
  · calc 2 ^ z * (6 * (2 ^ b) ^ 3) ^ 7 ≤ 2 ^ z * (2 ^ (3 * b + 3)) ^ 7 := Nat.mul_le_mul_left _ (Nat.pow_le_pow_left six 7)
      _ = 2 ^ (z + 7 * (3 * b + 3)) := by rw [← Nat.pow_mul, ← Nat.pow_add, Nat.mul_comm (3 * b + 3) 7]
theorem fdiv_le {x : Int} {p : Nat} (hp : 0 < p) : (x.fdiv (p : Int)).natAbs ≤ x.natAbs := by
  have h := fdiv_small (x := x) hp
  rcases Nat.lt_or_ge x.natAbs (x.fdiv (p : Int)).natAbs with h1 | h1
  · have h2 : (x.natAbs + 1) * p ≤ (x.fdiv (p : Int)).natAbs * p := Nat.mul_le_mul_right _ h1
    rw [Nat.add_mul, Nat.one_mul] at h2
    have h3 : x.natAbs ≤ x.natAbs * p := Nat.le_mul_of_pos_right _ hp
    omega
  · exact h1
theorem Cst.zero {a : List (List Int)} (h : Mx a) : Cst a 0 (wsOf a, 0) := by
  have hb : ∀ i j, (ent (wsOf a) i j).natAbs ≤ 2 ^ 20 := fun i j => by
    show ((a.getD i []).getD j 0).natAbs ≤ _
    by_cases hi : i < a.length
    · by_cases hj : j < (a.getD i []).length
      · have := h.num _ (mem_getD hi) _ (mem_getD (a0 := 0) hj)
        have e : (2 : Nat) ^ 20 = 1048576 := by decide
        omega
      · rw [List.getD_eq_getElem?_getD (l := a.getD i []), List.getElem?_eq_none (by omega)]
        exact Nat.zero_le _
    · rw [List.getD_eq_getElem?_getD (l := a), List.getElem?_eq_none (by omega)]
      exact Nat.zero_le _
  have hu : ∀ n i j, (gE (unitM n) i j).natAbs ≤ 1 := fun n i j => by
    unfold gE unitM
    by_cases hi : i < n
    · rw [List.getD_eq_getElem?_getD (l := List.map _ _), List.getElem?_map, List.getElem?_range hi]
      show (List.getD (List.map (fun j => if j = i then (1 : Int) else 0) (List.range n)) j 0).natAbs ≤ 1
      by_cases hj : j < n
      · rw [List.getD_eq_getElem?_getD, List.getElem?_map, List.getElem?_range hj]
        show (if j = i then (1 : Int) else 0).natAbs ≤ 1
        split <;> decide
      · rw [List.getD_eq_getElem?_getD, List.getElem?_eq_none (by rw [List.length_map, List.length_range]; omega)]
        decide
    · rw [List.getD_eq_getElem?_getD (l := List.map _ _), List.getElem?_eq_none (by rw [List.length_map, List.length_range]; omega)]
      simp
  exact ⟨wf_of h, Nat.zero_le _, .refl, ⟨fun _ => 0, fun i hi => absurd hi (Nat.not_lt_zero i), fun i j _ hj => absurd hj (Nat.not_lt_zero j), fun i hi => absurd hi (Nat.not_lt_zero i), fun i hi => absurd hi (Nat.not_lt_zero i), fun k i _ hi => absurd hi (Nat.not_lt_zero i), fun i _ j hj => absurd hj (Nat.not_lt_zero j)⟩, fun i _ j => hb i j, hb, fun i j => ⟨hu _ i j, hu _ i j⟩⟩
theorem Ech.more {s : WS} {n w top c : Nat} {pc : Nat → Nat} (e : Ech s n top c pc) (h : Wf s n w) (ht : n ≤ top) : Ech s n top (c + 1) pc :=
  ⟨fun i hi => Nat.lt_succ_of_lt (e.lt i hi), e.inc, e.left, e.pos, e.abv, fun i hi j _ => ent_out h (by omega)⟩
theorem Cst.next {a : List (List Int)} {c : Nat} {u : WS × Nat} (h : Mx a) (hc : c < wd a) (st : Cst a c u) : ∃ m, (u.2 < a.length → clearOk u.1 a.length (wd a) u.2 c m ∧ (ent (itr u.1 u.2 c m).1 u.2 c ≠ 0 → subsOk (itr u.1 u.2 c m).1 u.2 c 0 u.2)) ∧ Cst a (c + 1) (colStep u a.length c m) := by
  have l8 := h.l8
  have w8 := h.w8
  obtain ⟨s, top⟩ := u
  obtain ⟨n1, n2, n3, n4⟩ := nb_ok c (by omega)
  obtain ⟨⟨b, az, z⟩, hnb⟩ : ∃ q, nb c = q := ⟨_, rfl⟩
  rw [hnb] at n1 n2 n3 n4
  have wf := st.wf
  have rb := st.rb
  have ab := st.ab
  have zb := st.zb
  rw [hnb] at rb ab zb
  dsimp only at n1 n2 n3 n4 wf rb ab zb
  have hnb' : nb (c + 1) = (4 * b + 3, az + (4 * b + 3) + 1, z + 7 * (3 * b + 3) + 7 * (az + 1)) := by
    show (4 * (nb c).1 + 3, (nb c).2.1 + (4 * (nb c).1 + 3) + 1, (nb c).2.2 + 7 * (3 * (nb c).1 + 3) + 7 * ((nb c).2.1 + 1)) = _
    rw [hnb]
  obtain ⟨pc, ech⟩ := st.ech
  by_cases ht : top < a.length
  · obtain ⟨m, ok, ce⟩ := col_ok (szs_of n1 n2) wf ht hc (by omega) (Nat.pow_pos (by decide)) rb zb
    have rch : Reach a.length (wd a) (wsOf a) (itr s top c m).1 := st.rch.trans (reach_itr wf ht m fun j hj => (ok.2.2.2.2 j hj).1)
    have ech' := ech.next wf ok ce
    have S := szs_of n1 n2
    have rbu : ∀ i, top ≤ i → ∀ j, (ent (itr s top c m).1 i j).natAbs ≤ 2 ^ (4 * b + 3) := fun i hi j => Nat.le_trans (ce.rb i hi j) S.r
    have abu : ∀ i j, i < top → (ent (itr s top c m).1 i j).natAbs ≤ 2 ^ az := fun i j hi => by rw [ce.abv i hi]; exact ab i j
    have zbu : ZB (itr s top c m).1 (2 ^ (z + 7 * (3 * b + 3))) := ce.zb.mono S.z
    have p1 : 2 ^ az ≤ 2 ^ (az + (4 * b + 3) + 1) := Nat.pow_le_pow_right (by decide) (by omega)
    have p2 : 2 ^ (4 * b + 3) ≤ 2 ^ (az + (4 * b + 3) + 1) := Nat.pow_le_pow_right (by decide) (by omega)
    have p3 : 2 ^ (z + 7 * (3 * b + 3)) ≤ 2 ^ (z + 7 * (3 * b + 3) + 7 * (az + 1)) := Nat.pow_le_pow_right (by decide) (by omega)
    by_cases hp : ent (itr s top c m).1 top c = 0
    · have ecs : colStep (s, top) a.length c m = ((itr s top c m).1, top) := by
        unfold colStep
        rw [if_pos ht]
        show (if ent (itr s top c m).1 top c ≠ 0 then _ else _ : WS × Nat) = _
        rw [if_neg (fun z => z hp)]
      refine ⟨m, fun _ => ⟨ok, fun z => absurd hp z⟩, ?_⟩
      rw [ecs] at ech' ⊢
      refine ⟨ce.wf, Nat.le_of_lt ht, rch, ech', fun i hi j => ?_, fun i j => ?_, ?_⟩
      · rw [hnb']; exact rbu i hi j
      · rw [hnb']
        by_cases hi : i < top
        · exact Nat.le_trans (abu i j hi) p1
        · exact Nat.le_trans (rbu i (by omega) j) p2
      · rw [hnb']; exact zbu.mono p3
    · have ecs : colStep (s, top) a.length c m = (subs (itr s top c m).1 top c 0 top, top + 1) := by
        unfold colStep
        rw [if_pos ht]
        show (if ent (itr s top c m).1 top c ≠ 0 then _ else _ : WS × Nat) = _
        rw [if_pos hp]
      obtain ⟨p, hpe⟩ : ∃ p : Nat, ent (itr s top c m).1 top c = (p : Int) := ⟨(ent (itr s top c m).1 top c).toNat, by have := ce.tp; omega⟩
      have hp0 : 0 < p := by omega
      have f1 : 2 ^ az + 1 ≤ 2 ^ (az + 1) := by
        rw [Nat.pow_succ]
        have : 0 < 2 ^ az := Nat.pow_pos (by decide)
        omega
      have hq : ∀ i, 0 ≤ i → i < 0 + top → ((ent (itr s top c m).1 i c).fdiv (ent (itr s top c m).1 top c)).natAbs + 1 ≤ 2 ^ (az + 1) := fun i _ hi => by
        rw [hpe]
        have := fdiv_le (x := ent (itr s top c m).1 i c) hp0
        have := abu i c (by omega)
        omega
      have zf : 2 ^ (z + 7 * (3 * b + 3)) * (2 ^ (az + 1)) ^ 7 = 2 ^ (z + 7 * (3 * b + 3) + 7 * (az + 1)) := by
        rw [← Nat.pow_mul, ← Nat.pow_add, Nat.mul_comm (az + 1) 7]
      have es := ent_subs (c := c) (lo := 0) ce.wf ht top (by omega) (.inr (by omega))
      refine ⟨m, fun _ => ⟨ok, fun _ => subs_ok (lo := 0) (f := 2 ^ (az + 1)) (eq := az + 1) (er := 4 * b + 3) ce.wf ht (by omega) (.inr (by omega)) (by omega) hq (Nat.le_refl _) (rbu top (Nat.le_refl _)) zbu (Nat.le_of_eq zf) n3 n4⟩, ?_⟩
      rw [ecs] at ech' ⊢
      refine ⟨wf_subs ce.wf ht top (by omega), ht, rch.trans (reach_subs ce.wf ht top (by omega) (.inr (by omega))), ech', fun i hi j => ?_, fun i j => ?_, ?_⟩
      · have hi' : top + 1 ≤ i := hi
        rw [hnb']
        show (ent (subs (itr s top c m).1 top c 0 top) i j).natAbs ≤ _
        rw [es, if_neg (by omega)]
        exact rbu i (by omega) j
      · rw [hnb']
        show (ent (subs (itr s top c m).1 top c 0 top) i j).natAbs ≤ _
        rw [es]
        split
        · rename_i hi
          have e2 := abs_less (Z := 2 ^ (az + (4 * b + 3))) (f := 1) (x := ent (itr s top c m).1 i j) (y := 0) (k := 0) (Nat.le_trans (abu i j (by omega)) (Nat.pow_le_pow_right (by decide) (by omega))) (Nat.zero_le _) (by decide)
          have h1 := abu i j (by omega)
          have h2 := fdiv_le (x := ent (itr s top c m).1 i c) hp0
          have h3 := abu i c (by omega)
          have h4 := rbu top (Nat.le_refl _) j
          rw [hpe]
          have h5 : ((ent (itr s top c m).1 i c).fdiv (p : Int) * ent (itr s top c m).1 top j).natAbs ≤ 2 ^ (az + (4 * b + 3)) := by
            rw [Int.natAbs_mul, Nat.pow_add]
            exact Nat.mul_le_mul (Nat.le_trans h2 h3) h4
          have h6 : 2 ^ az ≤ 2 ^ (az + (4 * b + 3)) := Nat.pow_le_pow_right (by decide) (by omega)
          have h7 : 2 ^ (az + (4 * b + 3) + 1) = 2 * 2 ^ (az + (4 * b + 3)) := by rw [Nat.pow_succ, Nat.mul_comm]
          show (ent (itr s top c m).1 i j - (ent (itr s top c m).1 i c).fdiv (p : Int) * ent (itr s top c m).1 top j).natAbs ≤ 2 ^ (az + (4 * b + 3) + 1)
          rw [h7]
          omega
        · by_cases hi : i < top
          · exact Nat.le_trans (abu i j hi) p1
          · exact Nat.le_trans (rbu i (by omega) j) p2
      · rw [hnb']
        show ZB (subs (itr s top c m).1 top c 0 top) _
        refine (ZB.subs (lo := 0) (c := c) (f := 2 ^ (az + 1)) ce.wf ht zbu top (by omega) (.inr (by omega)) hq).mono ?_
        show _ ≤ 2 ^ (z + 7 * (3 * b + 3) + 7 * (az + 1))
        rw [← zf]
        exact Nat.mul_le_mul_left _ (Nat.pow_le_pow_right (Nat.pow_pos (by decide)) (by omega))
  · have ecs : colStep (s, top) a.length c 0 = (s, top) := by
      unfold colStep
      rw [if_neg ht]
    refine ⟨0, fun z => absurd z ht, ?_⟩
    rw [ecs]
    refine ⟨wf, st.tp, st.rch, ⟨pc, ech.more wf (by show a.length ≤ top; omega)⟩, fun i hi j => ?_, fun i j => ?_, ?_⟩
    · rw [hnb']; exact Nat.le_trans (rb i hi j) (Nat.pow_le_pow_right (by decide) (by show b ≤ 4 * b + 3; omega))
    · rw [hnb']; exact Nat.le_trans (ab i j) (Nat.pow_le_pow_right (by decide) (by show az ≤ az + (4 * b + 3) + 1; omega))
    · rw [hnb']; exact zb.mono (Nat.pow_le_pow_right (by decide) (by show z ≤ z + 7 * (3 * b + 3) + 7 * (az + 1); omega))
theorem hw_congr {a : List (List Int)} {m1 m2 : Nat → Nat} : ∀ c, (∀ k, k < c → m1 k = m2 k) → hw a m1 c = hw a m2 c
  | 0, _ => rfl
  | c + 1, h => by
    show colStep (hw a m1 c) a.length c (m1 c) = colStep (hw a m2 c) a.length c (m2 c)
    rw [hw_congr c fun k hk => h k (by omega), h c (by omega)]
theorem hermite_ex {a : List (List Int)} (h : Mx a) : ∃ mm, hwOk a (wd a) mm ∧ Cst a (wd a) (hw a mm (wd a)) := by
  have key : ∀ c, c ≤ wd a → ∃ mm, (∀ k, k < c → (hw a mm k).2 < a.length → clearOk (hw a mm k).1 a.length (wd a) (hw a mm k).2 k (mm k) ∧ (ent (itr (hw a mm k).1 (hw a mm k).2 k (mm k)).1 (hw a mm k).2 k ≠ 0 → subsOk (itr (hw a mm k).1 (hw a mm k).2 k (mm k)).1 (hw a mm k).2 k 0 (hw a mm k).2)) ∧ Cst a c (hw a mm c) := fun c => by
    induction c with
    | zero => exact fun _ => ⟨fun _ => 0, fun k hk => absurd hk (Nat.not_lt_zero k), Cst.zero h⟩
    | succ c ih =>
      intro hc
      obtain ⟨mm, h1, h2⟩ := ih (by omega)
      obtain ⟨m, h3, h4⟩ := h2.next h (by omega)
      have e : ∀ k, k ≤ c → hw a (fun j => if j = c then m else mm j) k = hw a mm k := fun k hk => hw_congr k fun j hj => if_neg (by omega)
      refine ⟨fun j => if j = c then m else mm j, fun k hk => ?_, ?_⟩
      · rw [e k (by omega)]
        show _ → clearOk _ _ _ _ _ (if k = c then m else mm k) ∧ (ent (itr _ _ _ (if k = c then m else mm k)).1 _ _ ≠ 0 → subsOk (itr _ _ _ (if k = c then m else mm k)).1 _ _ _ _)
        by_cases hk' : k = c
        · rw [if_pos hk', hk']
          exact h3
        · rw [if_neg hk']
          exact h1 k (by omega)
      · show Cst a (c + 1) (colStep (hw a (fun j => if j = c then m else mm j) c) a.length c (if c = c then m else mm c))
        rw [e c (Nat.le_refl _), if_pos rfl]
        exact h4
  obtain ⟨mm, h1, h2⟩ := key (wd a) (Nat.le_refl _)
  exact ⟨mm, h1, h2⟩
end
end
section
/-! ### what rows span -/
section
def InS : List (List Int) → (Nat → Int) → Prop
  | [], v => ∀ j, v j = 0
  | r :: rs, v => ∃ c : Int, InS rs fun j => v j - c * r.getD j 0
theorem InS.congr {u v : Nat → Int} : ∀ {l : List (List Int)}, InS l u → (∀ j, u j = v j) → InS l v
  | [], h, e => fun j => (e j).symm.trans (h j)
  | _ :: _, ⟨c, h⟩, e => ⟨c, h.congr fun j => by rw [e j]⟩
theorem InS.zero : ∀ {l : List (List Int)}, InS l fun _ => 0
  | [] => fun _ => rfl
  | _ :: _ => ⟨0, InS.zero.congr fun j => by simp⟩
theorem InS.add {u v : Nat → Int} : ∀ {l : List (List Int)}, InS l u → InS l v → InS l fun j => u j + v j
  | [], h, h2 => fun j => by show u j + v j = 0; rw [h j, h2 j]; rfl
  | _ :: _, ⟨c, h⟩, ⟨d, h2⟩ => ⟨c + d, (h.add h2).congr fun j => by
    show _ = u j + v j - (c + d) * _
    rw [Int.add_mul]
    omega⟩
theorem InS.smul {v : Nat → Int} {k : Int} : ∀ {l : List (List Int)}, InS l v → InS l fun j => k * v j
  | [], h => fun j => by show k * v j = 0; rw [h j, Int.mul_zero]
  | _ :: _, ⟨c, h⟩ => ⟨k * c, (h.smul (k := k)).congr fun j => by rw [Int.mul_sub, Int.mul_assoc]⟩
theorem InS.cons {v : Nat → Int} {r : List Int} {l : List (List Int)} (h : InS l v) : InS (r :: l) v := ⟨0, h.congr fun j => by simp⟩
theorem InS.mem {r : List Int} : ∀ {l : List (List Int)}, r ∈ l → InS l fun j => r.getD j 0
  | _ :: _, h => by
    rcases List.mem_cons.mp h with e | e
    · subst e
      exact ⟨1, InS.zero.congr fun j => by simp⟩
    · exact (InS.mem e).cons
theorem InS.of {l2 : List (List Int)} {v : Nat → Int} : ∀ {l : List (List Int)}, InS l v → (∀ r ∈ l, InS l2 fun j => r.getD j 0) → InS l2 v
  | [], h, _ => InS.zero.congr fun j => (h j).symm
  | r :: rs, ⟨c, h⟩, q => ((h.of fun x hx => q x (List.mem_cons_of_mem _ hx)).add ((q r List.mem_cons_self).smul (k := c))).congr fun j => by omega
def Sub (l l2 : List (List Int)) : Prop := ∀ r ∈ l, InS l2 fun j => r.getD j 0
theorem Sub.refl {l : List (List Int)} : Sub l l := fun _ h => InS.mem h
theorem Sub.trans {l l2 l3 : List (List Int)} (h : Sub l l2) (h2 : Sub l2 l3) : Sub l l3 := fun r hr => (h r hr).of h2
theorem Sub.ix {l l2 : List (List Int)} (h : ∀ i, i < l.length → InS l2 fun j => gE l i j) : Sub l l2 := fun r hr => by
  obtain ⟨i, hi, e⟩ := List.getElem_of_mem hr
  have := h i hi
  refine this.congr fun j => ?_
  unfold gE
  rw [List.getD_eq_getElem?_getD (l := l), List.getElem?_eq_getElem hi, e]
  rfl
theorem InS.ix {l : List (List Int)} {i : Nat} (hi : i < l.length) : InS l fun j => gE l i j := InS.mem (mem_getD hi)
theorem swap_len {l : List (List Int)} {i j : Nat} : (swapL l i j).length = l.length := by unfold swapL; rw [List.length_set, List.length_set]
theorem neg_len {l : List (List Int)} {i : Nat} : (negL l i).length = l.length := by unfold negL; rw [List.length_set]
theorem take_len {l : List (List Int)} {i j : Nat} {k : Int} : (takeL l i k j).length = l.length := by unfold takeL; rw [List.length_set]
theorem sub_swap {l : List (List Int)} {i j : Nat} (hi : i < l.length) (hj : j < l.length) : Sub (swapL l i j) l ∧ Sub l (swapL l i j) := by
  refine ⟨Sub.ix fun a ha => ?_, Sub.ix fun a ha => ?_⟩
  · rw [swap_len] at ha
    by_cases h1 : a = j
    · exact (InS.ix hi).congr fun b => by rw [gE_swap hi hj, if_pos h1]
    · by_cases h2 : a = i
      · exact (InS.ix hj).congr fun b => by rw [gE_swap hi hj, if_neg h1, if_pos h2]
      · exact (InS.ix ha).congr fun b => by rw [gE_swap hi hj, if_neg h1, if_neg h2]
  · by_cases h1 : a = i
    · exact (InS.ix (l := swapL l i j) (i := j) (by rw [swap_len]; exact hj)).congr fun b => by rw [gE_swap hi hj, if_pos rfl, h1]
    · by_cases h2 : a = j
      · exact (InS.ix (l := swapL l i j) (i := i) (by rw [swap_len]; exact hi)).congr fun b => by
          rw [gE_swap hi hj]
          by_cases h3 : i = j
          · exact absurd (h2.trans h3.symm) h1
          · rw [if_neg h3, if_pos rfl, h2]
      · exact (InS.ix (l := swapL l i j) (i := a) (by rw [swap_len]; exact ha)).congr fun b => by rw [gE_swap hi hj, if_neg h2, if_neg h1]
theorem sub_neg {l : List (List Int)} {i : Nat} (hi : i < l.length) : Sub (negL l i) l ∧ Sub l (negL l i) := by
  refine ⟨Sub.ix fun a ha => ?_, Sub.ix fun a ha => ?_⟩
  · rw [neg_len] at ha
    by_cases h1 : a = i
    · exact ((InS.ix hi).smul (k := -1)).congr fun b => by rw [gE_neg hi, if_pos h1]; omega
    · exact (InS.ix ha).congr fun b => by rw [gE_neg hi, if_neg h1]
  · by_cases h1 : a = i
    · exact ((InS.ix (l := negL l i) (i := i) (by rw [neg_len]; exact hi)).smul (k := -1)).congr fun b => by rw [gE_neg hi, if_pos rfl, h1]; omega
    · exact (InS.ix (l := negL l i) (i := a) (by rw [neg_len]; exact ha)).congr fun b => by rw [gE_neg hi, if_neg h1]
theorem sub_take {l : List (List Int)} {i j u : Nat} {k : Int} (hi : i < l.length) (hj : j < l.length) (hij : i ≠ j) (hu : ∀ q ∈ l, q.length = u) : Sub (takeL l i k j) l ∧ Sub l (takeL l i k j) := by
  refine ⟨Sub.ix fun a ha => ?_, Sub.ix fun a ha => ?_⟩
  · rw [take_len] at ha
    by_cases h1 : a = i
    · exact ((InS.ix hi).add ((InS.ix hj).smul (k := -k))).congr fun b => by rw [gE_take hi hj hu, if_pos h1, Int.neg_mul]; omega
    · exact (InS.ix ha).congr fun b => by rw [gE_take hi hj hu, if_neg h1]
  · by_cases h1 : a = i
    · exact ((InS.ix (l := takeL l i k j) (i := i) (by rw [take_len]; exact hi)).add ((InS.ix (l := takeL l i k j) (i := j) (by rw [take_len]; exact hj)).smul (k := k))).congr fun b => by
        rw [gE_take hi hj hu, if_pos rfl, gE_take hi hj hu, if_neg (fun z => hij z.symm), h1]
        omega
    · exact (InS.ix (l := takeL l i k j) (i := a) (by rw [take_len]; exact ha)).congr fun b => by rw [gE_take hi hj hu, if_neg h1]
theorem Reach.span {n w : Nat} {s0 s : WS} (h : Reach n w s0 s) : Sub s.r s0.r ∧ Sub s0.r s.r := by
  induction h with
  | refl => exact ⟨.refl, .refl⟩
  | swap _ hw hi hj hij ih =>
    have := sub_swap (l := _) (i := _) (j := _) (by rw [hw.r]; exact hi) (by rw [hw.r]; exact hj)
    exact ⟨this.1.trans ih.1, ih.2.trans this.2⟩
  | turn _ hw hi ih =>
    have := sub_neg (l := _) (i := _) (by rw [hw.r]; exact hi)
    exact ⟨this.1.trans ih.1, ih.2.trans this.2⟩
  | @take s i j k _ hw hi hj hij ih =>
    have := sub_take (l := s.r) (i := i) (j := j) (k := k) (by rw [hw.r]; exact hi) (by rw [hw.r]; exact hj) hij hw.rw
    exact ⟨this.1.trans ih.1, ih.2.trans this.2⟩
/-! ### the form, and that there is one only -/
structure HF (h : List (List Int)) (w r : Nat) (pc : Nat → Nat) : Prop where
  le : r ≤ h.length
  wid : ∀ q ∈ h, q.length = w
  lt : ∀ i, i < r → pc i < w
  inc : ∀ i j, i < j → j < r → pc i < pc j
  left : ∀ i, i < r → ∀ j, j < pc i → gE h i j = 0
  pos : ∀ i, i < r → 0 < gE h i (pc i)
  abv : ∀ k i, k < i → i < r → 0 ≤ gE h k (pc i) ∧ gE h k (pc i) < gE h i (pc i)
  low : ∀ i, r ≤ i → ∀ j, gE h i j = 0
theorem InS.van {v : Nat → Int} {j : Nat} : ∀ {l : List (List Int)}, InS l v → (∀ r ∈ l, r.getD j 0 = 0) → v j = 0
  | [], h, _ => h j
  | r :: rs, ⟨c, h⟩, q => by
    have := h.van fun x hx => q x (List.mem_cons_of_mem _ hx)
    have e := q r List.mem_cons_self
    try dsimp only at this
    rw [e, Int.mul_zero] at this
    omega
theorem gE_wide {h : List (List Int)} {w i j : Nat} (hw : ∀ q ∈ h, q.length = w) (hj : w ≤ j) : gE h i j = 0 := by
  unfold gE
  by_cases hi : i < h.length
  · rw [List.getD_eq_getElem?_getD (l := h.getD i []), List.getElem?_eq_none (by rw [hw _ (mem_getD hi)]; exact hj)]
    rfl
  · rw [List.getD_eq_getElem?_getD (l := h), List.getElem?_eq_none (by omega)]
    rfl
theorem drop_mem {h : List (List Int)} {k : Nat} {q : List Int} (hq : q ∈ h.drop k) : ∃ i, k ≤ i ∧ i < h.length ∧ ∀ j, q.getD j 0 = gE h i j := by
  obtain ⟨i, hi, e⟩ := List.getElem_of_mem hq
  rw [List.length_drop] at hi
  rw [List.getElem_drop] at e
  refine ⟨k + i, by omega, by omega, fun j => ?_⟩
  unfold gE
  rw [List.getD_eq_getElem?_getD (l := h), List.getElem?_eq_getElem (by omega), ← e]
  rfl
theorem HF.van {h : List (List Int)} {w r k : Nat} {pc : Nat → Nat} (f : HF h w r pc) (hk : k < r) {j : Nat} (hj : j ≤ pc k) : ∀ q ∈ h.drop (k + 1), q.getD j 0 = 0 := fun q hq => by
  obtain ⟨i, h1, h2, e⟩ := drop_mem hq
  rw [e]
  by_cases hi : i < r
  · exact f.left i hi j (Nat.lt_of_le_of_lt hj (f.inc k i (by omega) hi))
  · exact f.low i (by omega) j
theorem HF.lead {h : List (List Int)} {w r : Nat} {pc : Nat → Nat} (f : HF h w r pc) {p : Nat} : ∀ (d k : Nat) (v : Nat → Int), h.length - k = d → InS (h.drop k) v → (∀ j, j < p → v j = 0) → v p ≠ 0 → ∃ i, i < r ∧ pc i = p ∧ gE h i p ∣ v p := fun d => by
  induction d with
  | zero =>
    intro k v hd hv _ hp
    rw [List.drop_of_length_le (by omega)] at hv
    exact absurd (hv p) hp
  | succ d ih =>
    intro k v hd hv h0 hp
    have hk : k < h.length := by omega
    by_cases hkr : k < r
    · rw [List.drop_eq_getElem_cons hk] at hv
      obtain ⟨c, hc⟩ := hv
      have eg : ∀ j, h[k].getD j 0 = gE h k j := fun j => by
        unfold gE
        rw [List.getD_eq_getElem?_getD (l := h), List.getElem?_eq_getElem hk]
        rfl
      have e1 : ∀ j, j ≤ pc k → v j = c * gE h k j := fun j hj => by
        have := hc.van (j := j) (f.van hkr hj)
        try dsimp only at this
        rw [eg] at this
        omega
      rcases Nat.lt_trichotomy p (pc k) with hlt | heq | hgt
      · exact absurd (by rw [e1 p (by omega), f.left k hkr p hlt, Int.mul_zero]) hp
      · exact ⟨k, hkr, heq.symm, by rw [e1 p (by omega)]; exact Int.dvd_mul_left _ _⟩
      · have e2 := e1 (pc k) (Nat.le_refl _)
        rw [h0 (pc k) hgt] at e2
        have hc0 : c = 0 := by
          rcases Int.mul_eq_zero.mp e2.symm with z | z
          · exact z
          · have := f.pos k hkr; omega
        exact ih (k + 1) v (by omega) (hc.congr fun j => by rw [hc0]; omega) h0 hp
    · have : v p = 0 := hv.van fun q hq => by
        obtain ⟨i, h1, h2, e⟩ := drop_mem hq
        rw [e]
        exact f.low i (by omega) p
      exact absurd this hp
theorem HF.lead0 {h : List (List Int)} {w r : Nat} {pc : Nat → Nat} (f : HF h w r pc) {p : Nat} {v : Nat → Int} (hv : InS h v) (h0 : ∀ j, j < p → v j = 0) (hp : v p ≠ 0) : ∃ i, i < r ∧ pc i = p ∧ gE h i p ∣ v p := f.lead _ 0 v rfl hv h0 hp
theorem HF.cols {h h2 : List (List Int)} {w r r2 : Nat} {pc pc2 : Nat → Nat} (f : HF h w r pc) (f2 : HF h2 w r2 pc2) (s1 : Sub h h2) (s2 : Sub h2 h) : ∀ i, (i < r → i < r2 ∧ pc i = pc2 i) ∧ (i < r2 → i < r) := fun i => by
  induction i using Nat.strongRecOn with
  | _ i ih =>
    have a1 : i < r → ∃ k, i ≤ k ∧ k < r2 ∧ pc2 k = pc i := fun hi => by
      obtain ⟨k, hk, e, _⟩ := f2.lead0 (s1 _ (mem_getD (a0 := []) (show i < h.length by have := f.le; omega))) (fun j hj => f.left i hi j hj) (by have := f.pos i hi; unfold gE at this; omega)
      refine ⟨k, ?_, hk, e⟩
      rcases Nat.lt_or_ge k i with h | h
      · have := (ih k h).2 hk
        have e3 := ((ih k h).1 this).2
        have := f.inc k i h hi
        omega
      · exact h
    have a2 : i < r2 → ∃ k, i ≤ k ∧ k < r ∧ pc k = pc2 i := fun hi => by
      obtain ⟨k, hk, e, _⟩ := f.lead0 (s2 _ (mem_getD (a0 := []) (show i < h2.length by have := f2.le; omega))) (fun j hj => f2.left i hi j hj) (by have := f2.pos i hi; unfold gE at this; omega)
      refine ⟨k, ?_, hk, e⟩
      rcases Nat.lt_or_ge k i with h | h
      · have e3 := (ih k h).1 hk
        have := f2.inc k i h hi
        omega
      · exact h
    refine ⟨fun hi => ?_, fun hi => ?_⟩
    · obtain ⟨k, h1, h2, e⟩ := a1 hi
      have hi2 : i < r2 := by omega
      obtain ⟨k2, h3, h4, e2⟩ := a2 hi2
      refine ⟨hi2, ?_⟩
      have m1 : pc2 i ≤ pc2 k := by
        rcases Nat.eq_or_lt_of_le h1 with z | z
        · rw [z]; exact Nat.le_refl _
        · exact Nat.le_of_lt (f2.inc i k z h2)
      have m2 : pc i ≤ pc k2 := by
        rcases Nat.eq_or_lt_of_le h3 with z | z
        · rw [z]; exact Nat.le_refl _
        · exact Nat.le_of_lt (f.inc i k2 z h4)
      omega
    · obtain ⟨k2, h3, h4, e2⟩ := a2 hi
      omega
theorem dvd_pos_eq {a b : Int} (ha : 0 < a) (hb : 0 < b) (h1 : a ∣ b) (h2 : b ∣ a) : a = b := by
  have := Int.le_of_dvd hb h1
  have := Int.le_of_dvd ha h2
  omega
theorem rows_eq {h h2 : List (List Int)} {w : Nat} (hl : h.length = h2.length) (w1 : ∀ q ∈ h, q.length = w) (w2 : ∀ q ∈ h2, q.length = w) (he : ∀ i j, gE h i j = gE h2 i j) : h = h2 := by
  refine List.ext_getElem hl fun i h1 h3 => ?_
  have e1 := w1 _ (List.getElem_mem h1)
  have e2 := w2 _ (List.getElem_mem h3)
  refine List.ext_getElem (by rw [e1, e2]) fun j h4 h5 => ?_
  have := he i j
  unfold gE at this
  rw [List.getD_eq_getElem?_getD (l := h), List.getD_eq_getElem?_getD (l := h2), List.getElem?_eq_getElem h1, List.getElem?_eq_getElem h3] at this
  simp only [Option.getD_some, List.getD_eq_getElem?_getD] at this
  rw [List.getElem?_eq_getElem h4, List.getElem?_eq_getElem h5] at this
  exact this
theorem HF.uniq {h h2 : List (List Int)} {w r r2 : Nat} {pc pc2 : Nat → Nat} (f : HF h w r pc) (f2 : HF h2 w r2 pc2) (hl : h.length = h2.length) (s1 : Sub h h2) (s2 : Sub h2 h) : h = h2 := by
  have cs := f.cols f2 s1 s2
  have hr : r = r2 := by
    rcases Nat.lt_trichotomy r r2 with z | z | z
    · have := (cs r).2 z; omega
    · exact z
    · have := ((cs r2).1 z).1; omega
  subst hr
  have hpv : ∀ i, i < r → gE h i (pc i) = gE h2 i (pc i) := fun i hi => by
    have ep := ((cs i).1 hi).2
    obtain ⟨k, hk, e, d1⟩ := f2.lead0 (s1 _ (mem_getD (a0 := []) (show i < h.length by have := f.le; omega))) (fun j hj => f.left i hi j hj) (by have := f.pos i hi; unfold gE at this; omega)
    obtain ⟨k2, hk2, e2, d2⟩ := f.lead0 (s2 _ (mem_getD (a0 := []) (show i < h2.length by have := f2.le; omega))) (fun j hj => f2.left i hi j hj) (by have := f2.pos i hi; unfold gE at this; omega)
    have ek : k = i := by
      rcases Nat.lt_trichotomy k i with z | z | z
      · have := f2.inc k i z hi; omega
      · exact z
      · have := f2.inc i k z hk; omega
    have ek2 : k2 = i := by
      have := ((cs k2).1 hk2).2
      rcases Nat.lt_trichotomy k2 i with z | z | z
      · have := f.inc k2 i z hi; omega
      · exact z
      · have := f.inc i k2 z hk2; omega
    subst ek
    subst ek2
    have p1 := f.pos _ hi
    have p2 := f2.pos _ hi
    rw [ep] at p1 d1 ⊢
    exact dvd_pos_eq p1 p2 d2 d1
  refine rows_eq hl f.wid f2.wid fun i j => ?_
  by_cases hi : i < r
  · have hin : InS h fun j => gE h i j - gE h2 i j := ((InS.ix (show i < h.length by have := f.le; omega)).add ((s2 _ (mem_getD (a0 := []) (show i < h2.length by have := f2.le; omega))).smul (k := -1))).congr fun j => by
      show gE h i j + -1 * gE h2 i j = _
      omega
    have all : ∀ p, ∀ j, j < p → gE h i j - gE h2 i j = 0 := fun p => by
      induction p with
      | zero => exact fun j hj => absurd hj (Nat.not_lt_zero j)
      | succ p ih =>
        intro j hj
        by_cases hjp : j < p
        · exact ih j hjp
        · have ejp : j = p := by omega
          subst ejp
          by_cases hz : gE h i j - gE h2 i j = 0
          · exact hz
          · obtain ⟨k, hk, ek, dv⟩ := f.lead0 hin ih hz
            have epi := ((cs i).1 hi).2
            have epk := ((cs k).1 hk).2
            rcases Nat.lt_trichotomy k i with z | z | z
            · have l1 := f.inc k i z hi
              have := f.left i hi j (by omega)
              have := f2.left i hi j (by omega)
              omega
            · subst z
              have := hpv k hk
              rw [ek] at this
              omega
            · have b1 := f.abv i k z hk
              have b2 := f2.abv i k z hk
              have e3 := hpv k hk
              rw [← epk] at b2
              rw [ek] at b1 b2 e3
              rw [← e3] at b2
              exfalso
              obtain ⟨q, hq⟩ := dv
              try dsimp only at hq
              have p0 := f.pos k hk
              rw [ek] at p0
              have hq0 : q = 0 := by
                rcases Int.lt_trichotomy q 0 with z | z | z
                · have : gE h k j * q ≤ gE h k j * (-1) := Int.mul_le_mul_of_nonneg_left (by omega) (by omega)
                  omega
                · exact z
                · have : gE h k j * 1 ≤ gE h k j * q := Int.mul_le_mul_of_nonneg_left (by omega) (by omega)
                  omega
              rw [hq0, Int.mul_zero] at hq
              exact hz hq
    have := all (j + 1) j (by omega)
    omega
  · rw [f.low i (by omega), f2.low i (by omega)]
end
end
section
/-! ### determinants -/
section
def sumN : Nat → (Nat → Int) → Int
  | 0, _ => 0
  | n + 1, f => sumN n f + f n
theorem sumN_congr {f g : Nat → Int} : ∀ n, (∀ k, k < n → f k = g k) → sumN n f = sumN n g
  | 0, _ => rfl
  | n + 1, h => by
    show sumN n f + f n = sumN n g + g n
    rw [sumN_congr n fun k hk => h k (by omega), h n (by omega)]
theorem sumN_add {f g : Nat → Int} : ∀ n, sumN n (fun k => f k + g k) = sumN n f + sumN n g
  | 0 => rfl
  | n + 1 => by
    show sumN n (fun k => f k + g k) + (f n + g n) = (sumN n f + f n) + (sumN n g + g n)
    rw [sumN_add n]
    omega
theorem sumN_mul {f : Nat → Int} {c : Int} : ∀ n, sumN n (fun k => c * f k) = c * sumN n f
  | 0 => by simp [sumN]
  | n + 1 => by
    show sumN n (fun k => c * f k) + c * f n = c * (sumN n f + f n)
    rw [sumN_mul n, Int.mul_add]
theorem sumN_zero : ∀ n, sumN n (fun _ => 0) = 0
  | 0 => rfl
  | n + 1 => by
    show sumN n (fun _ => 0) + 0 = 0
    rw [sumN_zero n]
    rfl
theorem sumN_dvd {f : Nat → Int} {d : Int} : ∀ n, (∀ k, k < n → d ∣ f k) → d ∣ sumN n f
  | 0, _ => Int.dvd_zero d
  | n + 1, h => Int.dvd_add (sumN_dvd n fun k hk => h k (by omega)) (h n (by omega))
/-- a double sum that cancels -/
theorem sumN_anti {f : Nat → Nat → Int} : ∀ n, (∀ k l, k ≤ l → l < n → f k l = - f (l + 1) k) → sumN (n + 1) (fun k => sumN n (f k)) = 0
  | 0, _ => rfl
  | n + 1, h => by
    have ih := sumN_anti n fun k l h1 h2 => h k l h1 (by omega)
    have e1 : sumN (n + 1) (fun k => sumN (n + 1) (f k)) = sumN (n + 1) (fun k => sumN n (f k)) + sumN (n + 1) (fun k => f k n) := by
      rw [← sumN_add]
      rfl
    have e2 : sumN (n + 1) (f (n + 1)) = - sumN (n + 1) (fun k => f k n) := by
      have : sumN (n + 1) (f (n + 1)) = sumN (n + 1) fun k => (-1) * f k n := sumN_congr _ fun k hk => by
        have := h k n (by omega) (by omega)
        omega
      rw [this, sumN_mul]
      omega
    show sumN (n + 1) (fun k => sumN (n + 1) (f k)) + sumN (n + 1) (f (n + 1)) = 0
    rw [e1, ih, e2]
    omega
def sg (k : Nat) : Int := 1 - 2 * ((k % 2 : Nat) : Int)
theorem sg_succ {k : Nat} : sg (k + 1) = - sg k := by unfold sg; omega
abbrev Vc := Nat → Int
def dt : List Vc → List Nat → Int
  | [], _ => 1
  | v :: vs, P => sumN P.length fun k => sg k * v (P.getD k 0) * dt vs (P.eraseIdx k)
theorem dt_lin {c : Int} {u v : Vc} {l2 : List Vc} : ∀ (l1 : List Vc) (P : List Nat), dt (l1 ++ (fun j => c * u j + v j) :: l2) P = c * dt (l1 ++ u :: l2) P + dt (l1 ++ v :: l2) P
  | [], P => by
    show sumN _ _ = c * sumN _ _ + sumN _ _
    rw [← sumN_mul, ← sumN_add]
    refine sumN_congr _ fun k _ => ?_
    rw [Int.mul_add, Int.add_mul]
    congr 1
    simp only [Int.mul_assoc, Int.mul_left_comm]
  | w :: l1, P => by
    show sumN _ _ = c * sumN _ _ + sumN _ _
    rw [← sumN_mul, ← sumN_add]
    refine sumN_congr _ fun k _ => ?_
    show _ * dt (l1 ++ _) _ = _
    rw [dt_lin l1, Int.mul_add]
    congr 1
    simp only [Int.mul_assoc, Int.mul_left_comm]
    rfl
theorem dt_zero {l1 l2 : List Vc} {P : List Nat} : dt (l1 ++ (fun _ => 0) :: l2) P = 0 := by
  have := dt_lin (c := 1) (u := fun _ => 0) (v := fun _ => 0) (l2 := l2) l1 P
  simp only [Int.mul_zero, Int.add_zero, Int.one_mul] at this
  omega
theorem er_er {P : List Nat} {k l : Nat} (h : k ≤ l) : (P.eraseIdx k).eraseIdx l = (P.eraseIdx (l + 1)).eraseIdx k := by
  refine List.ext_getElem? fun i => ?_
  simp only [List.getElem?_eraseIdx]
  repeat' split
  all_goals first | rfl | (exfalso; omega)
theorem er_get {P : List Nat} {k l : Nat} : (P.eraseIdx k).getD l 0 = if l < k then P.getD l 0 else P.getD (l + 1) 0 := by
  simp only [List.getD_eq_getElem?_getD, List.getElem?_eraseIdx]
  split <;> rfl
theorem dt_same {u : Vc} {vs : List Vc} {P : List Nat} : dt (u :: u :: vs) P = 0 := by
  cases hP : P.length with
  | zero =>
    show sumN P.length _ = 0
    rw [hP]
    rfl
  | succ n =>
    have e : dt (u :: u :: vs) P = sumN (n + 1) fun k => sumN n fun l => sg k * u (P.getD k 0) * (sg l * u ((P.eraseIdx k).getD l 0) * dt vs ((P.eraseIdx k).eraseIdx l)) := by
      show sumN P.length _ = _
      rw [hP]
      refine sumN_congr _ fun k hk => ?_
      rw [sumN_mul]
      congr 1
      show sumN (P.eraseIdx k).length _ = _
      rw [List.length_eraseIdx_of_lt (by omega), hP]
      rfl
    rw [e]
    refine sumN_anti n fun k l h1 h2 => ?_
    rw [er_get, er_get, if_neg (by omega), if_pos (by omega), er_er h1, sg_succ]
    simp only [Int.neg_mul, Int.mul_neg, Int.neg_neg, Int.mul_assoc, Int.mul_left_comm, Int.mul_comm]
theorem dt_swap0 {u v : Vc} {vs : List Vc} {P : List Nat} : dt (u :: v :: vs) P = - dt (v :: u :: vs) P := by
  have h1 : dt ((fun j => 1 * u j + v j) :: (fun j => 1 * u j + v j) :: vs) P = 0 := dt_same
  have e1 := dt_lin (c := 1) (u := u) (v := v) (l2 := (fun j => 1 * u j + v j) :: vs) [] P
  have e2 := dt_lin (c := 1) (u := u) (v := v) (l2 := vs) [u] P
  have e3 := dt_lin (c := 1) (u := u) (v := v) (l2 := vs) [v] P
  simp only [List.nil_append, List.cons_append] at e1 e2 e3
  rw [e1, e2, e3, dt_same, dt_same] at h1
  omega
theorem dt_perm {l l2 : List Vc} (h : l.Perm l2) : ∃ s : Int, (s = 1 ∨ s = -1) ∧ ∀ P, dt l P = s * dt l2 P := by
  induction h with
  | nil => exact ⟨1, .inl rfl, fun P => (Int.one_mul _).symm⟩
  | cons x _ ih =>
    obtain ⟨s, hs, e⟩ := ih
    refine ⟨s, hs, fun P => ?_⟩
    show sumN _ _ = s * sumN _ _
    rw [← sumN_mul]
    refine sumN_congr _ fun k _ => ?_
    rw [e]
    simp only [Int.mul_left_comm]
  | swap x y l => exact ⟨-1, .inr rfl, fun P => by rw [dt_swap0]; omega⟩
  | trans _ _ ih1 ih2 =>
    obtain ⟨s, hs, e⟩ := ih1
    obtain ⟨s2, hs2, e2⟩ := ih2
    refine ⟨s * s2, ?_, fun P => by rw [e, e2, Int.mul_assoc]⟩
    rcases hs with rfl | rfl <;> rcases hs2 with rfl | rfl <;> simp
theorem dt_twice {l1 l2 : List Vc} {u : Vc} : ∀ P, dt (l1 ++ u :: u :: l2) P = 0 := by
  induction l1 with
  | nil => exact fun P => dt_same
  | cons w l1 ih =>
    intro P
    show sumN _ _ = 0
    rw [← sumN_zero P.length]
    refine sumN_congr _ fun k _ => ?_
    show _ * dt (l1 ++ u :: u :: l2) _ = 0
    rw [ih, Int.mul_zero]
/-- sorted: strictly, or with two alike -/
theorem sorted_or : ∀ {R : List Nat}, R.Pairwise (· ≤ ·) → R.Pairwise (· < ·) ∨ ∃ l1 x l2, R = l1 ++ x :: x :: l2
  | [], _ => .inl .nil
  | [x], _ => .inl (by simp)
  | x :: y :: r, h => by
    obtain ⟨h1, h2⟩ := List.pairwise_cons.mp h
    rcases sorted_or h2 with h3 | ⟨l1, z, l2, e⟩
    · by_cases hxy : x = y
      · subst hxy
        exact .inr ⟨[], x, r, rfl⟩
      · left
        refine List.pairwise_cons.mpr ⟨fun a ha => ?_, h3⟩
        have := h1 y List.mem_cons_self
        rcases List.mem_cons.mp ha with rfl | ha
        · omega
        · have := (List.pairwise_cons.mp h3).1 a ha
          omega
    · exact .inr ⟨x :: l1, z, l2, by rw [e]; rfl⟩
abbrev rowV (a : List (List Int)) (i : Nat) : Vc := fun j => gE a i j
/-- what divides the sorted minors divides all -/
theorem dt_any {a : List (List Int)} {n r : Nat} {P : List Nat} {d : Int} (h : ∀ R : List Nat, R.Pairwise (· < ·) → R.length = r → (∀ i ∈ R, i < n) → d ∣ dt (R.map (rowV a)) P) : ∀ R : List Nat, R.length = r → (∀ i ∈ R, i < n) → d ∣ dt (R.map (rowV a)) P := fun R hl hn => by
  have hp : (R.mergeSort (fun a b => decide (a ≤ b))).Perm R := List.mergeSort_perm R _
  have hs : (R.mergeSort (fun a b => decide (a ≤ b))).Pairwise (· ≤ ·) := by
    have := List.pairwise_mergeSort (le := fun a b : Nat => decide (a ≤ b)) (fun a b c h1 h2 => by simp at *; omega) (fun a b => by simp; omega) R
    exact this.imp fun h => by simpa using h
  obtain ⟨s, _, e⟩ := dt_perm (hp.symm.map (rowV a))
  rw [e]
  refine Int.dvd_mul_of_dvd_right ?_
  rcases sorted_or hs with h1 | ⟨l1, x, l2, e2⟩
  · exact h _ h1 (by rw [hp.length_eq]; exact hl) fun i hi => hn i (hp.mem_iff.mp hi)
  · rw [e2, List.map_append, List.map_cons, List.map_cons, dt_twice]
    exact Int.dvd_zero d
theorem dt_ins {a : List (List Int)} {l1 l2 : List Vc} {P : List Nat} {d : Int} {v : Vc} (hv : InS a v) (h : ∀ q ∈ a, d ∣ dt (l1 ++ (fun j => q.getD j 0) :: l2) P) : d ∣ dt (l1 ++ v :: l2) P := by
  induction a generalizing v with
  | nil =>
    have : v = fun _ => 0 := funext hv
    rw [this, dt_zero]
    exact Int.dvd_zero d
  | cons q a ih =>
    obtain ⟨c, hc⟩ := hv
    have e : v = fun j => c * q.getD j 0 + (v j - c * q.getD j 0) := funext fun j => by omega
    rw [e, dt_lin]
    exact Int.dvd_add (Int.dvd_mul_of_dvd_right (h q List.mem_cons_self)) (ih hc fun x hx => h x (List.mem_cons_of_mem _ hx))
/-- .. and all of what the rows span -/
theorem dt_span {a : List (List Int)} {r : Nat} {P : List Nat} {d : Int} (h : ∀ R : List Nat, R.length = r → (∀ i ∈ R, i < a.length) → d ∣ dt (R.map (rowV a)) P) : ∀ (m : Nat) (vs : List Vc) (R : List Nat), vs.length = m → (∀ v ∈ vs, InS a v) → vs.length + R.length = r → (∀ i ∈ R, i < a.length) → d ∣ dt (vs ++ R.map (rowV a)) P := fun m => by
  induction m with
  | zero =>
    intro vs R hv _ hl hn
    have : vs = [] := List.length_eq_zero_iff.mp hv
    subst this
    exact h R (by simpa using hl) hn
  | succ m ih =>
    intro vs R hv hs hl hn
    rcases List.eq_nil_or_concat vs with rfl | ⟨l, v, rfl⟩
    · simp at hv
    · rw [List.concat_eq_append] at hv hs hl ⊢
      rw [List.append_assoc]
      show d ∣ dt (l ++ v :: R.map (rowV a)) P
      have ll : l.length = m := by simpa using hv
      refine dt_ins (hs v (by simp)) fun q hq => ?_
      obtain ⟨i, hi, e⟩ := List.getElem_of_mem hq
      have e2 : (fun j => q.getD j 0) = rowV a i := funext fun j => by
        show _ = gE a i j
        unfold gE
        rw [List.getD_eq_getElem?_getD (l := a), List.getElem?_eq_getElem hi, e]
        rfl
      rw [e2]
      exact ih l (i :: R) ll (fun x hx => hs x (by simp [hx])) (by simp at hl ⊢; omega) fun k hk => by
        rcases List.mem_cons.mp hk with rfl | hk
        · exact hi
        · exact hn k hk
theorem minors_dvd {a h : List (List Int)} {r : Nat} {P : List Nat} {d : Int} (hs : Sub h a) (hd : ∀ R : List Nat, R.Pairwise (· < ·) → R.length = r → (∀ i ∈ R, i < a.length) → d ∣ dt (R.map (rowV a)) P) : ∀ R : List Nat, R.length = r → (∀ i ∈ R, i < h.length) → d ∣ dt (R.map (rowV h)) P := fun R hl hn => by
  have := dt_span (dt_any hd) r (R.map (rowV h)) [] (by rw [List.length_map]; exact hl) (fun v hv => by
    obtain ⟨i, hi, rfl⟩ := List.mem_map.mp hv
    exact hs _ (mem_getD (hn i hi))) (by simp [hl]) (by simp)
  simpa using this
end
end
section
/-! ### the program's other words -/
section
variable {g : Pg}
def nzR (v : List Int) : Bool := v.any (· != 0)
theorem ok_is_zero (W : Wd g) : FN g "is_zero" 1 (P1 fun d r => ∃ v, d = tV v ∧ r = .bl (!nzR v)) := by
  refine FN.mk1 W.t_is_zero c_is_zero (fun _ _ _ _ _ _ us hl => match us, hl with | [_], _ => rfl) (fun d r h => ?_)
  obtain ⟨v, rfl, rfl⟩ := h
  exact SB.one (ST.ret (EV.not (EV.anyT (EV.nm 0) W.b.any)))
def HOf (a h : List (List Int)) : Prop := ∃ mm, Mx a ∧ hwOk a (wd a) mm ∧ Cst a (wd a) (hw a mm (wd a)) ∧ h = (hw a mm (wd a)).1.r
theorem hof_ex {a : List (List Int)} (h : Mx a) : ∃ H, HOf a H := by
  obtain ⟨mm, h1, h2⟩ := hermite_ex h
  exact ⟨_, mm, h, h1, h2, rfl⟩
theorem ok_form_of (W : Wd g) : FN g "form_of" 35 (P1 fun d r => ∃ a h, HOf a h ∧ d = tM a ∧ r = tM h) := by
  refine FN.mk1 W.t_form_of c_form_of (fun _ _ _ _ _ _ us hl => match us, hl with | [_], _ => rfl) (fun d r h => ?_)
  obtain ⟨a, h, ⟨mm, hM, ok, _, rfl⟩, rfl, rfl⟩ := h
  exact SB.one (ST.ret (EV.ix (EV.c1 (ok_hermite_ways W) (EV.nm 0) ⟨a, mm, hM, ok, rfl, rfl⟩) EV.int (atI_nat (j := 0) rfl)))
theorem ok_hermite (W : Wd g) : FN g "hermite" 36 (P1 fun d r => ∃ a h, IsM d a ∧ HOf a h ∧ r = tM h) := by
  refine FN.mk1 W.t_hermite c_hermite (fun _ _ _ _ _ _ us hl => match us, hl with | [_], _ => rfl) (fun d r h => ?_)
  obtain ⟨a, h, hd, hh, rfl⟩ := h
  exact SB.one (ST.ret (EV.c1 (ok_form_of W) (EV.c1 (ok_checked_matrix W) (EV.nm 0) ⟨a, hd, rfl⟩) ⟨a, h, hh, rfl, rfl⟩))
/-- the rows that are not zeros -/
def nzs (m : List (List Int)) : List (List Int) := m.filter nzR
theorem ok_rank_of (W : Wd g) : FN g "rank_of" 36 (P1 fun d r => ∃ a h, HOf a h ∧ d = tM a ∧ h.length < 100000 ∧ r = .int ((nzs h).length : Int)) := by
  refine FN.mk1 W.t_rank_of c_rank_of (fun _ _ _ _ _ _ us hl => match us, hl with | [_], _ => rfl) (fun d r h => ?_)
  obtain ⟨a, h, hh, rfl, hz, rfl⟩ := h
  refine SB.one (ST.ret (EV.to (EV.len (LC.ev (LC.lMF 1 (xs := h) (f := tV) (g := tV) (t := nzR) (own := [("row", 1)]) (by rfl) c_rank_of.nd rfl (EV.c1 (ok_form_of W) (EV.nm 0) ⟨a, h, hh, rfl, rfl⟩) rfl (Nat.le_refl _) OkM.refl hz (fun y _ M => ET.to (ET.not (ET.val (EV.c1 (ok_is_zero W) (EV.nm 1) ⟨y, rfl, rfl⟩))) (by rw [Bool.not_not])) (fun y _ _ M => EV.nm 1))) rfl W.b.len) ?_))
  show O.dat (.int ((List.map tV (h.filter nzR)).length : Int)) = _
  rw [List.length_map]
  rfl
theorem ok_rank (W : Wd g) : FN g "rank" 37 (P1 fun d r => ∃ a h, IsM d a ∧ HOf a h ∧ h.length < 100000 ∧ r = .int ((nzs h).length : Int)) := by
  refine FN.mk1 W.t_rank c_rank (fun _ _ _ _ _ _ us hl => match us, hl with | [_], _ => rfl) (fun d r h => ?_)
  obtain ⟨a, h, hd, hh, hz, rfl⟩ := h
  exact SB.one (ST.ret (EV.c1 (ok_rank_of W) (EV.c1 (ok_checked_matrix W) (EV.nm 0) ⟨a, hd, rfl⟩) ⟨a, h, hh, rfl, hz, rfl⟩))
def basF (h : List (List Int)) : List (List Int) := if (nzs h).length > 0 then nzs h else [h.headD []]
theorem ok_basis_of (W : Wd g) : FN g "basis_of" 36 (P1 fun d r => ∃ a h, HOf a h ∧ d = tM a ∧ h.length < 100000 ∧ h ≠ [] ∧ r = tM (basF h)) := by
  refine FN.mk1 W.t_basis_of c_basis_of (fun _ _ _ _ _ _ us hl => match us, hl with | [_], _ => rfl) (fun d r h => ?_)
  obtain ⟨a, h, hh, rfl, hz, hne, rfl⟩ := h
  refine SB.cons (ST.set 1 (EV.c1 (ok_form_of W) (EV.nm 0) ⟨a, h, hh, rfl, rfl⟩) c_basis_of.nd) (SB.cons (ST.set 2 (EV.tuple (LC.ev (LC.lMF 3 (xs := h) (f := tV) (g := tV) (t := nzR) (own := [("row", 3)]) (by rfl) c_basis_of.nd rfl (EV.nm 1) rfl (Nat.le_refl _) OkM.refl hz (fun y _ M => ET.to (ET.not (ET.val (EV.c1 (ok_is_zero W) (EV.nm 3) ⟨y, rfl, rfl⟩))) (by rw [Bool.not_not])) (fun y _ _ M => EV.nm 3))) rfl W.b.tuple) c_basis_of.nd) (SB.one (ST.ret ?_)))
  have hl : lenD (.tup ((h.filter nzR).map tV)) = some (nzs h).length := by
    show some (List.map _ _).length = _
    rw [List.length_map]
    rfl
  unfold basF
  by_cases hp : (nzs h).length > 0
  · rw [if_pos hp]
    exact EV.ite (k := true) (ET.to (ET.cm (EV.len (EV.nm 2) hl W.b.len) EV.int CS.gtI) (decide_eq_true (by omega))) (fun _ => EV.nm 2) (fun z => nomatch z)
  · rw [if_neg hp]
    exact EV.ite (k := false) (ET.to (ET.cm (EV.len (EV.nm 2) hl W.b.len) EV.int CS.gtI) (decide_eq_false (by omega))) (fun z => nomatch z) (fun _ => EV.tup (ds := [tV (h.headD [])]) (EA.cons (EV.ix (EV.nm 1) EV.int (ix_tM0 hne)) EA.nil) (by simp))
theorem ok_basis (W : Wd g) : FN g "basis" 37 (P1 fun d r => ∃ a h, IsM d a ∧ HOf a h ∧ h.length < 100000 ∧ h ≠ [] ∧ r = tM (basF h)) := by
  refine FN.mk1 W.t_basis c_basis (fun _ _ _ _ _ _ us hl => match us, hl with | [_], _ => rfl) (fun d r h => ?_)
  obtain ⟨a, h, hd, hh, hz, hne, rfl⟩ := h
  exact SB.one (ST.ret (EV.c1 (ok_basis_of W) (EV.c1 (ok_checked_matrix W) (EV.nm 0) ⟨a, hd, rfl⟩) ⟨a, h, hh, rfl, hz, hne, rfl⟩))
theorem ok_pivots_of (W : Wd g) : FN g "pivots_of" 2 (P1 fun d r => ∃ h, d = tM h ∧ h.length < 100000 ∧ r = .lst ((nzs h).map fun q => optN (leadF q))) := by
  refine FN.mk1 W.t_pivots_of c_pivots_of (fun _ _ _ _ _ _ us hl => match us, hl with | [_], _ => rfl) (fun d r h => ?_)
  obtain ⟨h, rfl, hz, rfl⟩ := h
  exact SB.one (ST.ret (LC.ev (LC.lMF 1 (xs := h) (f := tV) (g := fun q => optN (leadF q)) (t := nzR) (own := [("row", 1)]) (by rfl) c_pivots_of.nd rfl (EV.nm 0) rfl (Nat.le_refl _) OkM.refl hz (fun y _ M => ET.to (ET.not (ET.val (EV.c1 (ok_is_zero W) (EV.nm 1) ⟨y, rfl, rfl⟩))) (by rw [Bool.not_not])) (fun y _ _ M => EV.c1 (ok_lead W) (EV.nm 1) ⟨y, rfl, rfl⟩))))
theorem ok_pivots (W : Wd g) : FN g "pivots" 37 (P1 fun d r => ∃ a h, IsM d a ∧ HOf a h ∧ h.length < 100000 ∧ r = .tup ((nzs h).map fun q => optN (leadF q))) := by
  refine FN.mk1 W.t_pivots c_pivots (fun _ _ _ _ _ _ us hl => match us, hl with | [_], _ => rfl) (fun d r h => ?_)
  obtain ⟨a, h, hd, hh, hz, rfl⟩ := h
  exact SB.one (ST.ret (EV.tuple (EV.c1 (ok_pivots_of W) (EV.c1 (ok_form_of W) (EV.c1 (ok_checked_matrix W) (EV.nm 0) ⟨a, hd, rfl⟩) ⟨a, h, hh, rfl, rfl⟩) ⟨h, rfl, hz, rfl⟩) rfl W.b.tuple))
end
section
/-- a loop that leaves by one and the same return -/
theorem SB.forB {C : Cc} {E E0 : List O} {M M0 : Mem} {n : Nat} {it : Nat → O} {inv : Mem → Prop} {tg iter : Expr} {body rest : List Stmt} {pos : Pos} {good : Nat → Bool} {out : O} {r : Out} (hs : EI C tg iter E M n it M0 inv) (hE : Fg E E0) (hinv : inv M0)
    (step : ∀ i, i < n → ∃ E1, EG C tg (it i) E0 M0 E1 M0 ∧ (good i = true → ∃ E2, Fg E2 E0 ∧ SB C body E1 M0 (.nx E2 M0)) ∧ (good i = false → SB C body E1 M0 (.rt out M0)))
    (hrest : (List.range n).all good = true → SB C rest E0 M0 r) (hbad : (List.range n).all good = false → r = .rt out M0) (hf : ∀ env x, foldedSetIterable iter env x = pure x := by intro _ _; rfl) : SB C (.For tg iter body [] pos :: rest) E M r := by
  by_cases hall : (List.range n).all good = true
  · have ha : ∀ i, i < n → good i = true := fun i hi => List.all_eq_true.mp hall i (List.mem_range.mpr hi)
    refine SB.cons (ST.for (m := n) (n := n) (E_ := fun _ => E0) (M_ := fun _ => M0) hs hE rfl (Nat.le_refl _) (fun _ _ => hinv) (fun i hi => ?_) (.inl ⟨rfl, rfl⟩) hf) (hrest hall)
    obtain ⟨E1, h1, h2, _⟩ := step i hi
    obtain ⟨E2, h4, h5⟩ := h2 (ha i hi)
    exact ⟨E1, M0, E2, h1, h4, .inl h5⟩
  · have hex : ∃ i, i < n ∧ good i = false := by
      rw [Bool.not_eq_true, List.all_eq_false] at hall
      obtain ⟨i, hi, h⟩ := hall
      exact ⟨i, List.mem_range.mp hi, by simpa using h⟩
    obtain ⟨i, hi, hg⟩ := hex
    obtain ⟨k, hk, hkp, hmin⟩ := least (P := fun j => j < n ∧ good j = false) i ⟨hi, hg⟩
    rw [hbad (by simpa using hall)]
    obtain ⟨E1, h1, _, h3⟩ := step k hkp.1
    refine SB.stop (ST.for (m := k) (n := n) (E_ := fun _ => E0) (M_ := fun _ => M0) hs hE rfl (Nat.le_of_lt hkp.1) (fun _ _ => hinv) (fun j hj => ?_) (.inr ⟨hkp.1, E1, M0, h1, .inl ⟨out, M0, h3 hkp.2, rfl⟩⟩) hf)
    obtain ⟨E1', h1', h2', _⟩ := step j (by omega)
    have hgj : good j = true := by
      cases h : good j with
      | true => rfl
      | false => exact absurd ⟨by omega, h⟩ (hmin j hj)
    obtain ⟨E2, h4, h5⟩ := h2' hgj
    exact ⟨E1', M0, E2, h1', h4, .inl h5⟩
end
section
variable {g : Pg}
/-- a row among those ahead -/
def inR (m : List (List Int)) (i : Nat) : Bool := match leadF (m.getD i []) with
  | none => true
  | some p => !(decide ((m.getD i []).getD p 0 < 0) || !(m.take i).all fun q => decide (0 ≤ q.getD p 0) && decide (q.getD p 0 < (m.getD i []).getD p 0))
def inB (m : List (List Int)) : Bool := echB m && (List.range m.length).all (inR m)
theorem leadF_lt {v : List Int} {p : Nat} (h : leadF v = some p) : p < v.length ∧ v.getD p 0 ≠ 0 ∧ ∀ j, j < p → v.getD j 0 = 0 := by
  obtain ⟨h1, h2, h3⟩ := List.findIdx?_eq_some_iff_getElem.mp h
  refine ⟨h1, ?_, fun j hj => ?_⟩
  · rw [List.getD_eq_getElem?_getD, List.getElem?_eq_getElem h1]
    simpa using h2
  · have := h3 j hj
    rw [List.getD_eq_getElem?_getD, List.getElem?_eq_getElem (by omega)]
    simpa using this
theorem leadF_none {v : List Int} (h : leadF v = none) : ∀ j, v.getD j 0 = 0 := fun j => by
  by_cases hj : j < v.length
  · have := List.findIdx?_eq_none_iff.mp h v[j] (List.getElem_mem hj)
    rw [List.getD_eq_getElem?_getD, List.getElem?_eq_getElem hj]
    simpa using this
  · rw [List.getD_eq_getElem?_getD, List.getElem?_eq_none (by omega)]
    rfl
theorem cutD_nat {α : Type} {xs : List α} {i : Nat} (hi : i ≤ xs.length) : cutD xs none (some (i : Int)) = xs.take i := by
  unfold cutD
  have e1 : HT.sIx xs.length 0 none = 0 := rfl
  have e2 : HT.sIx xs.length xs.length (some (i : Int)) = i := by rw [HT.sIx_nat]; omega
  rw [e1, e2]
  rfl
theorem ok_in_form (W : Wd g) : FN g "in_form" 3 (P1 fun d r => ∃ m, d = tM m ∧ m.length < 100000 ∧ (∀ q ∈ m, q.length = wd m) ∧ r = .bl (inB m)) := by
  refine FN.mk1 W.t_in_form c_in_form (fun _ _ _ _ _ _ us hl => match us, hl with | [_], _ => rfl) (fun d r h => ?_)
  obtain ⟨m, rfl, hz, hw, rfl⟩ := h
  have hlen : (m.map tV).length = m.length := List.length_map _
  refine SB.guard (ET.not (ET.val (EV.c1 (ok_is_echelon W) (EV.nm 0) ⟨m, rfl, rfl⟩))) (fun z => ?_) (fun z => ?_)
  · have e : echB m = false := by simpa using z
    refine SB.one (ST.ret (EV.to EV.bl ?_))
    unfold inB
    rw [e, Bool.false_and]
  · have e : echB m = true := by simpa using z
    have er : inB m = (List.range m.length).all (inR m) := by
      unfold inB
      rw [e, Bool.true_and]
    rw [er]
    refine SB.forB (n := m.length) (E0 := [.dat (tM m), .no, .no, .no, .no]) (M0 := []) (good := inR m) (out := .dat (.bl false)) (hlen ▸ EI.enum (EV.nm 0) W.b.enumerate) Fg.refl True.intro (fun i hi => ?_) (fun h => SB.one (ST.ret (EV.to EV.bl (by rw [h])))) (fun h => by rw [h])
    have hat : atN (m.map tV) i = .dat (.tup [.int (i : Int), tV (m.getD i [])]) := by
      unfold atN
      rw [List.getD_eq_getElem?_getD, List.getElem?_map, List.getElem?_eq_getElem hi, List.getD_eq_getElem?_getD, List.getElem?_eq_getElem hi]
      rfl
    rw [hat]
    refine ⟨[.dat (tM m), .dat (.int (i : Int)), .dat (tV (m.getD i [])), .no, .no], EG.tup (ds := [.int (i : Int), tV (m.getD i [])]) (EGs.cons (EG.nm 1 c_in_form.nd) (EGs.cons (EG.nm 2 c_in_form.nd) EGs.nil)), ?_⟩
    have fg : ∀ o, Fg ([.dat (tM m), .dat (.int (i : Int)), .dat (tV (m.getD i [])), o, .no] : List O) [.dat (tM m), .no, .no, .no, .no] := fun o => Fg.cons (Fg.no (Fg.no (Fg.no (Fg.no Fg.nil))))
    cases hl : leadF (m.getD i []) with
    | none =>
      have e1 : inR m i = true := by
        unfold inR
        rw [hl]
      rw [e1]
      exact ⟨fun _ => ⟨_, fg _, SB.cons (ST.set 3 (EV.to (EV.c1 (ok_lead W) (EV.nm 2) ⟨_, rfl, rfl⟩) (by rw [hl])) c_in_form.nd) (SB.one (ST.no (ET.to (ET.notN (d := .non) (EV.nm 3)) rfl) SB.nil))⟩, fun z => nomatch z⟩
    | some p =>
      obtain ⟨hp, _, _⟩ := leadF_lt hl
      have e1 : inR m i = !(decide ((m.getD i []).getD p 0 < 0) || !((m.take i).map fun q => decide (0 ≤ q.getD p 0) && decide (q.getD p 0 < (m.getD i []).getD p 0)).all id) := by
        unfold inR
        rw [hl, all_map]
      have test : ET (mkC g n_in_form s_in_form 2) (ifOf ((thenOf ((bodyOf ((defBody s_in_form).getD 1 (.Pass ⟨0, 0, 0, 0⟩))).getD 1 (.Pass ⟨0, 0, 0, 0⟩))).getD 0 (.Pass ⟨0, 0, 0, 0⟩))) [.dat (tM m), .dat (.int (i : Int)), .dat (tV (m.getD i [])), .dat (.int (p : Int)), .no] [] (!inR m i) [] := by
        rw [e1, Bool.not_not]
        refine EW.et (EW.or (ET.cm (EV.ix (EV.nm 2) (EV.nm 3) (ix_tV hp)) EV.int CS.ltI) (fun _ => EW.or1 (ET.not (ET.val (EV.all (bs := (m.take i).map fun q => decide (0 ≤ q.getD p 0) && decide (q.getD p 0 < (m.getD i []).getD p 0)) ?_ W.b.all)))) (fun _ => rfl))
        rw [List.map_map]
        refine LC.ev (LC.lM 4 (xs := m.take i) (f := tV) (own := [("above", 4)]) (by rfl) c_in_form.nd rfl (EV.slT (ds := m.map tV) (EV.nm 0) EO.none (EO.some (EV.nm 1))) (by rw [cutD_nat (by rw [hlen]; omega), ← List.map_take]; rfl) (Nat.le_refl _) OkM.refl (by rw [List.length_take]; omega) (fun q hq M => ?_))
        have hql : p < q.length := by
          rw [hw q (List.mem_of_mem_take hq)]
          rw [hw _ (mem_getD hi)] at hp
          exact hp
        exact EV.chain (M4 := M) EV.int (EV.ix (EV.nm 4) (EV.nm 3) (ix_tV hql)) CS.leI (fun _ => EV.ix (EV.nm 2) (EV.nm 3) (ix_tV hp)) (fun _ => CS.ltI) (fun _ => rfl)
      have first : ∀ {r : Out}, SB (mkC g n_in_form s_in_form 2) ((bodyOf ((defBody s_in_form).getD 1 (.Pass ⟨0, 0, 0, 0⟩))).drop 1) [.dat (tM m), .dat (.int (i : Int)), .dat (tV (m.getD i [])), .dat (.int (p : Int)), .no] [] r → SB (mkC g n_in_form s_in_form 2) (bodyOf ((defBody s_in_form).getD 1 (.Pass ⟨0, 0, 0, 0⟩))) [.dat (tM m), .dat (.int (i : Int)), .dat (tV (m.getD i [])), .no, .no] [] r := fun h => SB.cons (ST.set 3 (EV.to (EV.c1 (ok_lead W) (EV.nm 2) ⟨_, rfl, rfl⟩) (by rw [hl]; rfl)) c_in_form.nd) h
      refine ⟨fun hg => ⟨_, fg (.dat (.int (p : Int))), first (SB.one (ST.yes (ET.to (ET.notN (d := .int (p : Int)) (EV.nm 3)) rfl) (SB.one (ST.no (ET.to test (by rw [hg]; rfl)) SB.nil))))⟩, fun hg => first (SB.one (ST.yes (ET.to (ET.notN (d := .int (p : Int)) (EV.nm 3)) rfl) (SB.one (ST.yes (ET.to test (by rw [hg]; rfl)) (SB.one (ST.ret EV.bl))))))⟩
theorem ok_is_hermite (W : Wd g) : FN g "is_hermite" 6 (P1 fun d r => ∃ m, IsM d m ∧ r = .bl (inB m)) := by
  refine FN.mk1 W.t_is_hermite c_is_hermite (fun _ _ _ _ _ _ us hl => match us, hl with | [_], _ => rfl) (fun d r h => ?_)
  obtain ⟨m, hd, rfl⟩ := h
  exact SB.one (ST.ret (EV.c1 (ok_in_form W) (EV.c1 (ok_checked_matrix W) (EV.nm 0) ⟨m, hd, rfl⟩) ⟨m, rfl, hd.1.sm.1, hd.1.rect, rfl⟩))
end
end
section
/-! ### the law's own words -/
section
theorem FN.mk1x {g : Pg} {x y : Str} {st : Stmt} {N : List Str} {k : Nat} {F : D → D → Prop} (T : TxtF g x st) (S : FnScope N [y] (defScope st))
    (hb : ∀ (kV doc pm : Value) (an : Option Addr) (cdv ct : Value) (us : List Value), us.length = 1 → bindArgs (PySem.W.fnOf x x (defArgs st) (defBody st) (defScope st) .none kV doc pm an cdv ct) ⟨us, []⟩ = pure ([y].zip us))
    (body : ∀ d r, F d r → ∃ J, SB (Ab.mkC g N st k) (defBody st) (pad N [.dat d]) [] (.rt (.dat r) J)) : FN g x (k + 1) (P1 F) :=
  FN.mkJ T S hb (fun os M o M' h => by obtain ⟨d, r, rfl, _⟩ := h; rfl) (fun os M o M' h => by obtain ⟨d, r, rfl, rfl, rfl, rfl, h⟩ := h; obtain ⟨J, h⟩ := body d r h; exact ⟨Nat.le_refl _, True.intro, LowM.nil, J, h⟩)
theorem FN.mk2x' {g : Pg} {x y z : Str} {st : Stmt} {N : List Str} {k : Nat} {F : D → D → D → Prop} (T : TxtF g x st) (S : FnScope N [y, z] (defScope st))
    (hb : ∀ (kV doc pm : Value) (an : Option Addr) (cdv ct : Value) (us : List Value), us.length = 2 → bindArgs (PySem.W.fnOf x x (defArgs st) (defBody st) (defScope st) .none kV doc pm an cdv ct) ⟨us, []⟩ = pure ([y, z].zip us))
    (body : ∀ d e r, F d e r → ∃ J, SB (Ab.mkC g N st k) (defBody st) (pad N [.dat d, .dat e]) [] (.rt (.dat r) J)) : FN g x (k + 1) (P2 F) :=
  FN.mkJ T S hb (fun os M o M' h => by obtain ⟨d, e, r, rfl, _⟩ := h; rfl) (fun os M o M' h => by obtain ⟨d, e, r, rfl, rfl, rfl, rfl, h⟩ := h; obtain ⟨J, h⟩ := body d e r h; exact ⟨Nat.le_refl _, True.intro, LowM.nil, J, h⟩)
/-- rows of numbers, of lists or tuples -/
def Sq (d : D) (m : List (List Int)) : Prop := ∃ ds, seqD d = some ds ∧ Paired (fun e (r : List Int) => seqD e = some (r.map .int)) ds m
theorem sq_t {m : List (List Int)} : Sq (tM m) m := ⟨_, rfl, paired_tM m⟩
theorem sq_l {m : List (List Int)} : Sq (lM m) m := ⟨_, rfl, paired_lM m⟩
theorem sq_of {d : D} {m : List (List Int)} (h : IsM d m) : Sq d m := h.2
theorem paired_at {α β : Type} {R : α → β → Prop} : ∀ {l : List α} {k : List β} {i : Nat} {b : β}, Paired R l k → k[i]? = some b → ∃ a, l[i]? = some a ∧ R a b
  | _, _, _, _, .nil, h => by simp at h
  | _, _, 0, _, .cons h _, e => by simp at e; subst e; exact ⟨_, rfl, h⟩
  | _, _, i + 1, _, .cons _ r, e => by
    obtain ⟨a, h1, h2⟩ := paired_at (i := i) r (by simpa using e)
    exact ⟨a, by simpa using h1, h2⟩
theorem Sq.len {d : D} {m : List (List Int)} (h : Sq d m) : lenD d = some m.length := by
  obtain ⟨ds, h1, h2⟩ := h
  rw [← Paired.length h2]
  exact (seq_of h1).2
theorem Sq.at_ {d : D} {m : List (List Int)} (h : Sq d m) {i : Nat} (hi : i < m.length) : ∃ e, ixD d (i : Int) = some e ∧ seqD e = some ((m.getD i []).map D.int) := by
  obtain ⟨ds, h1, h2⟩ := h
  have hm : m[i]? = some (m.getD i []) := by rw [List.getD_eq_getElem?_getD, List.getElem?_eq_getElem hi]; rfl
  obtain ⟨e, e1, e2⟩ := paired_at h2 hm
  refine ⟨e, ?_, e2⟩
  cases d <;> first | (cases h1; exact atI_nat e1) | cases h1
theorem sqV_at {e : D} {r : List Int} (h : seqD e = some (r.map D.int)) {j : Nat} (hj : j < r.length) : ixD e (j : Int) = some (.int (r.getD j 0)) := by
  have e1 : (r.map D.int)[j]? = some (.int (r.getD j 0)) := by
    rw [List.getElem?_map, List.getElem?_eq_getElem hj, List.getD_eq_getElem?_getD, List.getElem?_eq_getElem hj]
    rfl
  cases e <;> first | (cases h; exact atI_nat e1) | cases h
theorem sqV_len {e : D} {r : List Int} (h : seqD e = some (r.map D.int)) : lenD e = some r.length := by
  have := (seq_of h).2
  rwa [List.length_map] at this
theorem ev_at {C : Cc} {E : List O} {M M1 M' : Mem} {a b c : Expr} {p1 p2 : Pos} {d : D} {m : List (List Int)} {i j : Nat} (h : Sq d m) (ha : EV C a E M (.dat d) M1) (hb : EV C b E M1 (.dat (.int (i : Int))) M1) (hc : EV C c E M1 (.dat (.int (j : Int))) M') (hi : i < m.length) (hj : j < (m.getD i []).length) (h1 : PlainIx b := by exact fun _ _ => rfl) (h2 : PlainIx c := by exact fun _ _ => rfl) :
    EV C (.Subscript (.Subscript a b p1) c p2) E M (.dat (.int (gE m i j))) M' := by
  obtain ⟨e, e1, e2⟩ := h.at_ hi
  exact EV.ix (EV.ix ha hb e1 h1) hc (sqV_at e2 hj) h2
end
section
variable {g : Pg}
theorem ok_law_rows (W : Wd g) : FN g "_law_rows" 1 (P1 fun d r => ∃ m, Sq d m ∧ m.length < 100000 ∧ r = tM m) := by
  refine FN.mk1 W.t_law_rows c_law_rows (fun _ _ _ _ _ _ us hl => match us, hl with | [_], _ => rfl) (fun d r h => ?_)
  obtain ⟨m, ⟨ds, hs, hp⟩, hz, rfl⟩ := h
  have hmem := paired_mem hp
  have e : tM m = .tup (ds.map tupD) := congrArg D.tup (paired_tup hp).symm
  rw [e]
  exact SB.one (ST.ret (EV.tuple (LC.ev (LC.lM 1 (xs := ds) (f := fun e => e) (g := tupD) (own := [("line", 1)]) (by rfl) c_law_rows.nd rfl (EV.nm 0) (by rw [hs, List.map_id']) (Nat.le_refl _) OkM.refl (by rw [Paired.length hp]; exact hz) (fun y hy M => by
    obtain ⟨q, _, hq⟩ := hmem y hy
    have : tupD y = .tup (q.map D.int) := by unfold tupD; rw [hq]; rfl
    rw [this]
    exact EV.tuple (EV.nm 1) hq W.b.tuple))) rfl W.b.tuple))
def mostV (b : Nat) (v : List Int) : Nat := v.foldl (fun b x => max b x.natAbs) b
def mostF (m : List (List Int)) : Nat := m.foldl mostV 0
theorem mostV_le {B : Nat} : ∀ {v : List Int} {b : Nat}, mostV b v ≤ B ↔ b ≤ B ∧ ∀ x ∈ v, x.natAbs ≤ B
  | [], b => by simp [mostV]
  | x :: v, b => by
    show mostV (max b x.natAbs) v ≤ B ↔ _
    rw [mostV_le]
    simp only [List.mem_cons, forall_eq_or_imp]
    constructor
    · rintro ⟨h1, h2⟩; exact ⟨by omega, by omega, h2⟩
    · rintro ⟨h1, h2, h3⟩; exact ⟨by omega, h3⟩
theorem mostF_le' {B : Nat} : ∀ {m : List (List Int)} {b : Nat}, m.foldl mostV b ≤ B ↔ b ≤ B ∧ ∀ q ∈ m, ∀ x ∈ q, x.natAbs ≤ B
  | [], b => by simp
  | q :: m, b => by
    show m.foldl mostV (mostV b q) ≤ B ↔ _
    rw [mostF_le', mostV_le]
    simp only [List.mem_cons, forall_eq_or_imp]
    constructor
    · rintro ⟨⟨h1, h2⟩, h3⟩; exact ⟨h1, h2, h3⟩
    · rintro ⟨h1, h2, h3⟩; exact ⟨⟨h1, h2⟩, h3⟩
theorem mostF_le {B : Nat} {m : List (List Int)} : mostF m ≤ B ↔ ∀ q ∈ m, ∀ x ∈ q, x.natAbs ≤ B := by
  unfold mostF
  rw [mostF_le']
  simp
theorem ok_law_most (W : Wd g) : FN g "_law_most" 1 (P1 fun d r => ∃ m, Sq d m ∧ r = .int (mostF m : Int)) := by
  refine FN.mk1 W.t_law_most c_law_most (fun _ _ _ _ _ _ us hl => match us, hl with | [_], _ => rfl) (fun d r h => ?_)
  obtain ⟨m, ⟨ds, hs, hp⟩, rfl⟩ := h
  have hlen : ds.length = m.length := Paired.length hp
  refine SB.cons (ST.set 1 EV.int c_law_most.nd) (SB.cons (ST.forN 2 (E_ := fun n => [.dat d, .dat (.int (mostF (m.take n) : Int)), .no, .no]) (M_ := fun _ => []) (EI.seq (EV.nm 0) hs) Fg.refl rfl (fun _ _ => True.intro) c_law_most.nd (fun n hn => ?_)) (SB.one (ST.ret (EV.to (EV.nm 1) ?_))))
  · have hn' : n < m.length := by omega
    obtain ⟨e, e1, e2⟩ := paired_at hp (List.getElem?_eq_getElem hn')
    have ea : atO ds n = .dat e := by
      unfold atO
      rw [List.getD_eq_getElem?_getD, e1]
      rfl
    rw [ea]
    have hl2 : (m[n].map D.int).length = m[n].length := List.length_map _
    refine ⟨[.dat d, .dat (.int (mostF (m.take (n + 1)) : Int)), .dat e, .no], Fg.cons (Fg.cons (Fg.no (Fg.no Fg.nil))), SB.one ?_⟩
    refine ST.to (ST.forN 3 (n := m[n].length) (E_ := fun k => [.dat d, .dat (.int (mostV (mostF (m.take n)) (m[n].take k) : Int)), .dat e, .no]) (M_ := fun _ => []) (hl2 ▸ EI.seq (EV.nm 2) e2) Fg.refl rfl (fun _ _ => True.intro) c_law_most.nd (fun k hk => ?_)) ?_
    · rw [atO_map hk]
      refine ⟨[.dat d, .dat (.int (mostV (mostF (m.take n)) (m[n].take (k + 1)) : Int)), .dat e, .dat (.int m[n][k])], Fg.cons (Fg.cons (Fg.cons (Fg.no Fg.nil))), SB.one (ST.to (ST.set 1 (EV.max2 (EV.nm 1) (EV.abs (EV.nm 3) W.b.abs) W.b.max) c_law_most.nd) ?_)⟩
      have : ((mostV (mostF (m.take n)) (m[n].take (k + 1)) : Nat) : Int) = max ((mostV (mostF (m.take n)) (m[n].take k) : Nat) : Int) ((m[n][k]).natAbs : Int) := by
        unfold mostV
        rw [List.take_succ_eq_append_getElem hk, List.foldl_append]
        show ((max _ _ : Nat) : Int) = _
        omega
      rw [this]
      rfl
    · rw [List.take_length]
      have : mostF (m.take (n + 1)) = mostV (mostF (m.take n)) m[n] := by
        unfold mostF
        rw [List.take_succ_eq_append_getElem hn', List.foldl_append]
        rfl
      rw [this]
  · rw [hlen, List.take_length]
/-- where a row begins -/
def headF (v : List Int) : Nat := match leadF v with
  | some p => p
  | none => v.length
def headsF (m : List (List Int)) : List Nat := m.map headF
theorem filter_head {v : List Int} {p : Nat} (h : leadF v = some p) : ((List.range v.length).filter fun j => !decide (v.getD j 0 = 0)).head? = some p := by
  obtain ⟨h1, h2, h3⟩ := leadF_lt h
  have e : List.range v.length = List.range p ++ (List.range' p (v.length - p)) := by
    rw [List.range_eq_range', List.range_eq_range', show v.length = p + (v.length - p) by omega, ← List.range'_append_1]
    simp
  rw [e, List.filter_append]
  have e1 : (List.range p).filter (fun j => !decide (v.getD j 0 = 0)) = [] := by
    rw [List.filter_eq_nil_iff]
    intro j hj
    rw [h3 j (List.mem_range.mp hj)]
    simp
  rw [e1, List.nil_append, show v.length - p = (v.length - p - 1) + 1 by omega, List.range'_succ, List.filter_cons, if_pos (by simpa using h2)]
  rfl
theorem filter_none {v : List Int} (h : leadF v = none) : ((List.range v.length).filter fun j => !decide (v.getD j 0 = 0)) = [] := by
  rw [List.filter_eq_nil_iff]
  intro j _
  rw [leadF_none h j]
  simp
theorem ok_law_heads (W : Wd g) : FN g "_law_heads" 1 (P1 fun d r => ∃ m, Sq d m ∧ m.length < 100000 ∧ (∀ q ∈ m, q.length < 100000) ∧ r = lN (headsF m)) := by
  refine FN.mk1x W.t_law_heads c_law_heads (fun _ _ _ _ _ _ us hl => match us, hl with | [_], _ => rfl) (fun d r h => ?_)
  obtain ⟨m, ⟨ds, hs, hp⟩, hz, hz2, rfl⟩ := h
  have hlen : ds.length = m.length := Paired.length hp
  have cellN : ∀ l : List Nat, (some ((l.map fun (k : Nat) => D.int (k : Int)).map O.dat) : Option (List O)) = some ((l.map fun (k : Nat) => D.int (k : Int)).map O.dat) := fun _ => rfl
  refine ⟨[none], ?_⟩
  refine SB.cons (E1 := [.dat d, .adr 0, .no, .no, .no]) (M1 := [some []]) (ST.set 1 (EV.cel EA.nil (by simp)) c_law_heads.nd) (SB.cons (E1 := [.dat d, .adr 0, .no, .no, .no]) (M1 := [some (((headsF m).map fun (k : Nat) => D.int (k : Int)).map O.dat)]) (ST.to (ST.forN 2 (E_ := fun n => [.dat d, .adr 0, .no, .no, .no]) (M_ := fun n => [some (((headsF (m.take n)).map fun (k : Nat) => D.int (k : Int)).map O.dat)]) (EI.seq (EV.nm 0) hs) Fg.refl rfl (fun _ _ => True.intro) c_law_heads.nd (fun n hn => ?_)) (by rw [hlen, List.take_length])) ?_)
  · have hn' : n < m.length := by omega
    obtain ⟨e, e1, e2⟩ := paired_at hp (List.getElem?_eq_getElem hn')
    have ea : atO ds n = .dat e := by
      unfold atO
      rw [List.getD_eq_getElem?_getD, e1]
      rfl
    rw [ea]
    have hq := hz2 _ (List.getElem_mem hn')
    have eh : headsF (m.take (n + 1)) = headsF (m.take n) ++ [headF m[n]] := by
      unfold headsF
      rw [List.take_succ_eq_append_getElem hn', List.map_append]
      rfl
    have lz : (((headsF (m.take n)).map fun (k : Nat) => D.int (k : Int)).map O.dat).length < 100000 := by
      unfold headsF
      rw [List.length_map, List.length_map, List.length_map, List.length_take]
      omega
    have em : ∀ x : Nat, ([some (((headsF (m.take n)).map fun (k : Nat) => D.int (k : Int)).map O.dat ++ [O.dat (.int (x : Int))])] : Mem) = [some (((headsF (m.take n) ++ [x]).map fun (k : Nat) => D.int (k : Int)).map O.dat)] := fun x => by
      rw [List.map_append, List.map_append]
      rfl
    have fg : ∀ o3, Fg ([.dat d, .adr 0, .dat e, o3, .no] : List O) [.dat d, .adr 0, .no, .no, .no] := fun o3 => Fg.cons (Fg.cons (Fg.no (Fg.no (Fg.cons Fg.nil))))
    have live : ST (mkC g n_law_heads s_law_heads 0) ((bodyOf ((defBody s_law_heads).getD 1 (.Pass ⟨0, 0, 0, 0⟩))).getD 0 (.Pass ⟨0, 0, 0, 0⟩)) [.dat d, .adr 0, .dat e, .no, .no] [some (((headsF (m.take n)).map fun (k : Nat) => D.int (k : Int)).map O.dat)] (.nx [.dat d, .adr 0, .dat e, .dat (lN ((List.range m[n].length).filter fun j => !decide (m[n].getD j 0 = 0))), .no] [some (((headsF (m.take n)).map fun (k : Nat) => D.int (k : Int)).map O.dat)]) := by
      refine ST.to (LC.set 3 (LC.lPF (own := [("j", 4)]) (it := atI0 0) (inv := tt) (n := m[n].length) (v := fun i => .int ((i : Nat) : Int)) (f := fun i => !decide (m[n].getD i 0 = 0)) (by rfl) c_law_heads.nd (EI.rng1 (j := (m[n].length : Int)) (EV.len (EV.nm 2) (sqV_len e2) W.b.len) W.b.range (by omega)) (fun _ => True.intro) hq (Nat.le_refl _) OkM.refl (fun i hi => ?_)) rfl rfl (fun env he => sw_true (by rw [he]; rfl) (by rw [he]; rfl) (by rfl) (by rfl))) rfl
      have e0 : atI0 0 i = .dat (.int (i : Int)) := by
        unfold atI0
        rw [Int.zero_add]
      rw [e0]
      exact ⟨_, fun M => EGv.nm 4 c_law_heads.nd (by simp), fun M => EP.one (ET.cm (EV.ix (EV.nm 2) (EV.nm 4) (sqV_at e2 hi)) EV.int CS.neI), fun _ M => EV.nm 4⟩
    cases hl : leadF m[n] with
    | some p =>
      have hf := filter_head hl
      have hx : headF m[n] = p := by unfold headF; rw [hl]
      rw [eh, hx]
      generalize ((List.range m[n].length).filter fun j => !decide (m[n].getD j 0 = 0)) = fl at hf live
      cases fl with
      | nil => cases hf
      | cons p' rest =>
        have : p' = p := Option.some.inj hf
        subst this
        refine ⟨[.dat d, .adr 0, .dat e, .dat (lN (p' :: rest)), .no], fg _, SB.cons live (SB.one (ST.yes (ET.to (ET.cm (EV.len (EV.nm 3) rfl W.b.len) EV.int CS.gtI) (by simp)) (SB.one (ST.to (ST.exp (EV.append (n := 0) (ps := ((headsF (m.take n)).map fun (k : Nat) => D.int (k : Int)).map O.dat) (EV.nm 1) (EV.ix (d1 := lN (p' :: rest)) (d := .int (p' : Int)) (EV.nm 3) EV.int (atI_nat (j := 0) rfl)) rfl rfl lz)) (by rw [← em]; rfl)))))⟩
    | none =>
      have hx : headF m[n] = m[n].length := by unfold headF; rw [hl]
      rw [filter_none hl] at live
      rw [eh, hx]
      exact ⟨[.dat d, .adr 0, .dat e, .dat (lN []), .no], fg _, SB.cons live (SB.one (ST.no (ET.to (ET.cm (EV.len (EV.nm 3) rfl W.b.len) EV.int CS.gtI) (by decide)) (SB.one (ST.to (ST.exp (EV.append (n := 0) (ps := ((headsF (m.take n)).map fun (k : Nat) => D.int (k : Int)).map O.dat) (EV.nm 1) (EV.len (EV.nm 2) (sqV_len e2) W.b.len) rfl rfl lz)) (by rw [← em]; rfl)))))⟩
  · exact SB.fz (jj := 1) (nn := 0) (ds := (headsF m).map fun (k : Nat) => D.int (k : Int)) rfl rfl (SB.one (ST.ret (EV.nm 1)))
end
end
section
section
theorem SB.forO {C : Cc} {E E0 : List O} {M M0 : Mem} {n : Nat} {it : Nat → O} {inv : Mem → Prop} {tg iter : Expr} {body rest : List Stmt} {pos : Pos} {stat : Nat → Option O} {r : Out} (hs : EI C tg iter E M n it M0 inv) (hE : Fg E E0) (hinv : inv M0)
    (step : ∀ i, i < n → ∃ E1, EG C tg (it i) E0 M0 E1 M0 ∧ (stat i = none → ∃ E2, Fg E2 E0 ∧ SB C body E1 M0 (.nx E2 M0)) ∧ ∀ o, stat i = some o → SB C body E1 M0 (.rt o M0))
    (hrest : (∀ i, i < n → stat i = none) → SB C rest E0 M0 r) (hret : ∀ k o, k < n → stat k = some o → (∀ j, j < k → stat j = none) → r = .rt o M0) (hf : ∀ env x, foldedSetIterable iter env x = pure x := by intro _ _; rfl) : SB C (.For tg iter body [] pos :: rest) E M r := by
  by_cases hall : ∀ i, i < n → stat i = none
  · refine SB.cons (ST.for (m := n) (n := n) (E_ := fun _ => E0) (M_ := fun _ => M0) hs hE rfl (Nat.le_refl _) (fun _ _ => hinv) (fun i hi => ?_) (.inl ⟨rfl, rfl⟩) hf) (hrest hall)
    obtain ⟨E1, h1, h2, _⟩ := step i hi
    obtain ⟨E2, h4, h5⟩ := h2 (hall i hi)
    exact ⟨E1, M0, E2, h1, h4, .inl h5⟩
  · have hex : ∃ i, i < n ∧ stat i ≠ none := by
      refine Classical.byContradiction fun h => hall fun i hi => ?_
      cases hsi : stat i with
      | none => rfl
      | some o => exact absurd ⟨i, hi, by rw [hsi]; exact fun z => nomatch z⟩ h
    obtain ⟨i, hi, hg⟩ := hex
    obtain ⟨k, hk, hkp, hmin⟩ := least (P := fun j => j < n ∧ stat j ≠ none) i ⟨hi, hg⟩
    have hj : ∀ j, j < k → stat j = none := fun j hj => by
      cases hsj : stat j with
      | none => rfl
      | some o => exact absurd ⟨by omega, by rw [hsj]; exact fun z => nomatch z⟩ (hmin j hj)
    obtain ⟨o, ho⟩ : ∃ o, stat k = some o := by
      cases hsk : stat k with
      | none => exact absurd hsk hkp.2
      | some o => exact ⟨o, rfl⟩
    rw [hret k o hkp.1 ho hj]
    obtain ⟨E1, h1, _, h3⟩ := step k hkp.1
    refine SB.stop (ST.for (m := k) (n := n) (E_ := fun _ => E0) (M_ := fun _ => M0) hs hE rfl (Nat.le_of_lt hkp.1) (fun _ _ => hinv) (fun j hjk => ?_) (.inr ⟨hkp.1, E1, M0, h1, .inl ⟨o, M0, h3 o ho, rfl⟩⟩) hf)
    obtain ⟨E1', h1', h2', _⟩ := step j (by omega)
    obtain ⟨E2, h4, h5⟩ := h2' (hj j hjk)
    exact ⟨E1', M0, E2, h1', h4, .inl h5⟩
end
section
variable {g : Pg}
theorem lN_at {l : List Nat} {i : Nat} (h : i < l.length) : ixD (lN l) (i : Int) = some (.int (l.getD i 0 : Int)) := by
  refine atI_nat ?_
  rw [List.getElem?_map, List.getElem?_eq_getElem h, List.getD_eq_getElem?_getD, List.getElem?_eq_getElem h]
  rfl
theorem lN_len {l : List Nat} : lenD (lN l) = some l.length := by
  show some (List.map _ _).length = _
  rw [List.length_map]
def hd (m : List (List Int)) (i : Nat) : Nat := (headsF m).getD i 0
theorem hd_eq {m : List (List Int)} {i : Nat} (h : i < m.length) : hd m i = headF (m.getD i []) := by
  unfold hd headsF
  rw [List.getD_eq_getElem?_getD, List.getElem?_map, List.getElem?_eq_getElem h, List.getD_eq_getElem?_getD, List.getElem?_eq_getElem h]
  rfl
theorem hd_at {m : List (List Int)} {i : Nat} (h : i < m.length) : ixD (lN (headsF m)) (i : Int) = some (.int (hd m i : Int)) := lN_at (by unfold headsF; rw [List.length_map]; exact h)
def lkAbv (m : List (List Int)) (i k : Nat) : Bool := !(decide (hd m i ≤ hd m k) || !(decide (0 ≤ gE m k (hd m i)) && decide (gE m k (hd m i) < gE m i (hd m i))))
def lkStat (m : List (List Int)) (i : Nat) : Option Bool :=
  if hd m i = wd m then some ((List.range (m.length - i)).all fun k => decide (hd m (i + k) = wd m))
  else if gE m i (hd m i) ≤ 0 then some false
  else if (List.range i).all (lkAbv m i) = true then none else some false
def looksB (m : List (List Int)) : Bool := ((List.range m.length).findSome? (lkStat m)).getD true
theorem findSome_first {α : Type} {f : Nat → Option α} {n k : Nat} {o : α} (hk : k < n) (h : f k = some o) (hj : ∀ j, j < k → f j = none) : (List.range n).findSome? f = some o := by
  rw [List.range_eq_range', show n = k + (n - k) by omega, ← List.range'_append_1, List.findSome?_append]
  have e1 : (List.range' 0 k).findSome? f = none := by
    rw [List.findSome?_eq_none_iff]
    intro j hj'
    rw [List.mem_range'_1] at hj'
    exact hj j (by omega)
  rw [e1, show n - k = (n - k - 1) + 1 by omega, List.range'_succ, List.findSome?_cons, Nat.zero_add, h]
  rfl
theorem ok_law_looks (W : Wd g) : FN g "_law_looks" 2 (P1 fun d r => ∃ m, Sq d m ∧ m ≠ [] ∧ m.length < 100000 ∧ wd m < 100000 ∧ (∀ q ∈ m, q.length = wd m) ∧ r = .bl (looksB m)) := by
  refine FN.mk1 W.t_law_looks c_law_looks (fun _ _ _ _ _ _ us hl => match us, hl with | [_], _ => rfl) (fun d r h => ?_)
  obtain ⟨m, hs, hne, hz, hz2, hw, rfl⟩ := h
  have hpos : 0 < m.length := by
    cases m with
    | nil => exact absurd rfl hne
    | cons q r => simp
  have hl0 : (headsF m).length = m.length := List.length_map _
  obtain ⟨e0, e01, e02⟩ := hs.at_ hpos
  have hw0 : (m.getD 0 []).length = wd m := hw _ (mem_getD hpos)
  have wlen : ∀ {E : List O} {C : Cc} {a : Expr} {p1 p2 p3 p4 p5 : Pos} {jj : Nat}, EV C a E [] (.dat d) [] → Bt C.g "len" → C.sc.names.lookup ("len" : Str) = some NameKind.globalImplicit → EV C (.Call (.Name "len" p1) [.Subscript a (.Constant (.int 0) jj p2) p3] [] p4) E [] (.dat (.int (wd m : Int))) [] := fun {E C a p1 p2 p3 p4 p5 jj} ha hb hg => EV.to (EV.len (EV.ix ha EV.int e01) (sqV_len e02) hb rfl hg) (by rw [hw0])
  have hle : ∀ i, i < m.length → hd m i ≤ wd m := fun i hi => by
    rw [hd_eq hi]
    unfold headF
    have := hw (m.getD i []) (mem_getD hi)
    split
    · rename_i p hp
      have := (leadF_lt hp).1
      omega
    · omega
  refine SB.cons (E1 := [.dat d, .dat (lN (headsF m)), .no, .no]) (M1 := []) (ST.set 1 (EV.c1 (ok_law_heads W) (EV.nm 0) ⟨m, hs, hz, fun q hq => by rw [hw q hq]; exact hz2, rfl⟩) c_law_looks.nd) ?_
  refine SB.forO (n := m.length) (E0 := [.dat d, .dat (lN (headsF m)), .no, .no]) (M0 := []) (inv := tt) (it := atI0 0) (stat := fun i => (lkStat m i).map fun b => .dat (.bl b)) (EI.rng1 (j := (m.length : Int)) (EV.len (EV.nm 0) hs.len W.b.len) W.b.range (by omega)) Fg.refl True.intro (fun i hi => ?_) (fun hall => ?_) (fun k o hk ho hj => ?_)
  · have ei : atI0 0 i = .dat (.int (i : Int)) := by
      unfold atI0
      rw [Int.zero_add]
    rw [ei]
    refine ⟨_, EG.nm 2 c_law_looks.nd, ?_⟩
    show ((lkStat m i).map (fun b => O.dat (.bl b)) = none → ∃ E2, Fg E2 [.dat d, .dat (lN (headsF m)), .no, .no] ∧ SB _ _ [.dat d, .dat (lN (headsF m)), .dat (.int (i : Int)), .no] [] (.nx E2 [])) ∧ ∀ o, (lkStat m i).map (fun b => O.dat (.bl b)) = some o → SB _ _ [.dat d, .dat (lN (headsF m)), .dat (.int (i : Int)), .no] [] (.rt o [])
    have hix : EV (mkC g n_law_looks s_law_looks 1) (.Subscript (.Name "heads" ⟨0, 0, 0, 0⟩) (.Name "i" ⟨0, 0, 0, 0⟩) ⟨0, 0, 0, 0⟩) [.dat d, .dat (lN (headsF m)), .dat (.int (i : Int)), .no] [] (.dat (.int (hd m i : Int))) [] := EV.ix (EV.nm 1) (EV.nm 2) (hd_at hi)
    have hdi := hle i hi
    have hrow : (m.getD i []).length = wd m := hw _ (mem_getD hi)
    unfold lkStat
    by_cases h1 : hd m i = wd m
    · rw [if_pos h1]
      refine ⟨fun z => (by cases z), fun o ho => ?_⟩
      cases ho
      refine SB.stop (ST.yes (ET.to (ET.cm (EV.ix (EV.nm 1) (EV.nm 2) (hd_at hi)) (wlen (p5 := ⟨0, 0, 0, 0⟩) (EV.nm 0) W.b.len rfl) CS.eqI) (decide_eq_true (by omega))) ?_)
      refine SB.forB (n := ((m.length : Int) - (i : Int)).toNat) (E0 := [.dat d, .dat (lN (headsF m)), .dat (.int (i : Int)), .no]) (M0 := []) (inv := tt) (it := atI0 (i : Int)) (good := fun k => decide (hd m (i + k) = wd m)) (out := .dat (.bl false)) (EI.rng2 (EV.nm 2) (EV.len (EV.nm 0) hs.len W.b.len) W.b.range (by omega) (by omega)) Fg.refl True.intro (fun k hk => ?_) (fun h => SB.one (ST.ret (EV.to EV.bl ?_))) (fun h => ?_)
      · have ek : atI0 (i : Int) k = .dat (.int ((i + k : Nat) : Int)) := by
          unfold atI0
          rw [Int.natCast_add]
        rw [ek]
        refine ⟨_, EG.nm 3 c_law_looks.nd, fun hg => ⟨[.dat d, .dat (lN (headsF m)), .dat (.int (i : Int)), .dat (.int ((i + k : Nat) : Int))], Fg.cons (Fg.cons (Fg.cons (Fg.no Fg.nil))), ?_⟩, fun hg => ?_⟩
        · exact SB.one (ST.no (ET.to (ET.cm (EV.ix (EV.nm 1) (EV.nm 3) (hd_at (by omega))) (wlen (p5 := ⟨0, 0, 0, 0⟩) (EV.nm 0) W.b.len rfl) CS.neI) (by have := of_decide_eq_true hg; simp; omega)) SB.nil)
        · exact SB.one (ST.yes (ET.to (ET.cm (EV.ix (EV.nm 1) (EV.nm 3) (hd_at (by omega))) (wlen (p5 := ⟨0, 0, 0, 0⟩) (EV.nm 0) W.b.len rfl) CS.neI) (by have := of_decide_eq_false hg; simp; omega)) (SB.one (ST.ret EV.bl)))
      · rw [← range_sub, h]
      · rw [← range_sub, h]
    · rw [if_neg h1]
      have hlt : hd m i < wd m := by omega
      have t1 : ∀ {r : Out} {rest : List Stmt} {ys : List Stmt} {p : Pos} {c : Expr}, ET (mkC g n_law_looks s_law_looks 1) c [.dat d, .dat (lN (headsF m)), .dat (.int (i : Int)), .no] [] false [] → SB (mkC g n_law_looks s_law_looks 1) rest [.dat d, .dat (lN (headsF m)), .dat (.int (i : Int)), .no] [] r → SB (mkC g n_law_looks s_law_looks 1) (.If c ys [] p :: rest) [.dat d, .dat (lN (headsF m)), .dat (.int (i : Int)), .no] [] r := fun hc hr => SB.cons (ST.no hc SB.nil) hr
      have c1 : ∀ {p1 p2 p3 : Pos}, EV (mkC g n_law_looks s_law_looks 1) (.Subscript (.Name "heads" p1) (.Name "i" p2) p3) [.dat d, .dat (lN (headsF m)), .dat (.int (i : Int)), .no] [] (.dat (.int (hd m i : Int))) [] := fun {p1 p2 p3} => EV.ix (EV.nm 1) (EV.nm 2) (hd_at hi)
      by_cases h2 : gE m i (hd m i) ≤ 0
      · rw [if_pos h2]
        refine ⟨fun z => (by cases z), fun o ho => ?_⟩
        cases ho
        exact SB.cons (ST.no (ET.to (ET.cm c1 (wlen (p5 := ⟨0, 0, 0, 0⟩) (EV.nm 0) W.b.len rfl) CS.eqI) (decide_eq_false (by omega))) SB.nil) (SB.stop (ST.yes (ET.to (ET.cm (ev_at hs (EV.nm 0) (EV.nm 2) c1 hi (by rw [hrow]; exact hlt)) EV.int CS.leI) (decide_eq_true h2)) (SB.one (ST.ret EV.bl))))
      · rw [if_neg h2]
        have loop : ∀ (r : Out), ((List.range i).all (lkAbv m i) = true → SB (mkC g n_law_looks s_law_looks 1) [] [.dat d, .dat (lN (headsF m)), .dat (.int (i : Int)), .no] [] r) → ((List.range i).all (lkAbv m i) = false → r = .rt (.dat (.bl false)) []) → SB (mkC g n_law_looks s_law_looks 1) ((bodyOf ((defBody s_law_looks).getD 1 (.Pass ⟨0, 0, 0, 0⟩)))) [.dat d, .dat (lN (headsF m)), .dat (.int (i : Int)), .no] [] r := fun r hr1 hr2 => by
          refine SB.cons (ST.no (ET.to (ET.cm c1 (wlen (p5 := ⟨0, 0, 0, 0⟩) (EV.nm 0) W.b.len rfl) CS.eqI) (decide_eq_false (by omega))) SB.nil) (SB.cons (ST.no (ET.to (ET.cm (ev_at hs (EV.nm 0) (EV.nm 2) c1 hi (by rw [hrow]; exact hlt)) EV.int CS.leI) (decide_eq_false h2)) SB.nil) ?_)
          refine SB.forB (n := i) (E0 := [.dat d, .dat (lN (headsF m)), .dat (.int (i : Int)), .no]) (M0 := []) (inv := tt) (it := atI0 0) (good := lkAbv m i) (out := .dat (.bl false)) (EI.rng1 (j := (i : Int)) (EV.nm 2) W.b.range (by omega)) Fg.refl True.intro (fun k hk => ?_) hr1 hr2
          have ek : atI0 0 k = .dat (.int (k : Int)) := by
            unfold atI0
            rw [Int.zero_add]
          rw [ek]
          have hkm : k < m.length := by omega
          have hrk : (m.getD k []).length = wd m := hw _ (mem_getD hkm)
          have c2 : ∀ {p1 p2 p3 : Pos}, EV (mkC g n_law_looks s_law_looks 1) (.Subscript (.Name "heads" p1) (.Name "i" p2) p3) [.dat d, .dat (lN (headsF m)), .dat (.int (i : Int)), .dat (.int (k : Int))] [] (.dat (.int (hd m i : Int))) [] := fun {p1 p2 p3} => EV.ix (EV.nm 1) (EV.nm 2) (hd_at hi)
          have c3 : ∀ {p1 p2 p3 : Pos}, EV (mkC g n_law_looks s_law_looks 1) (.Subscript (.Name "heads" p1) (.Name "k" p2) p3) [.dat d, .dat (lN (headsF m)), .dat (.int (i : Int)), .dat (.int (k : Int))] [] (.dat (.int (hd m k : Int))) [] := fun {p1 p2 p3} => EV.ix (EV.nm 1) (EV.nm 3) (hd_at hkm)
          have test : ET (mkC g n_law_looks s_law_looks 1) (ifOf ((bodyOf ((bodyOf ((defBody s_law_looks).getD 1 (.Pass ⟨0, 0, 0, 0⟩))).getD 2 (.Pass ⟨0, 0, 0, 0⟩))).getD 0 (.Pass ⟨0, 0, 0, 0⟩))) [.dat d, .dat (lN (headsF m)), .dat (.int (i : Int)), .dat (.int (k : Int))] [] (!lkAbv m i k) [] := by
            refine ET.to (EW.et (EW.or (ET.cm c3 c2 CS.geI) (fun _ => EW.or1 (ET.not (ET.chain EV.int (ev_at hs (EV.nm 0) (EV.nm 3) c2 hkm (by rw [hrk]; exact hlt)) CS.leI (fun _ => ev_at hs (EV.nm 0) (EV.nm 2) c2 hi (by rw [hrow]; exact hlt)) (fun _ => CS.ltI) (fun _ => rfl)))) (fun _ => rfl))) ?_
            unfold lkAbv
            rw [Bool.not_not]
            congr 1
            rw [Bool.eq_iff_iff]
            simp
          refine ⟨_, EG.nm 3 c_law_looks.nd, fun hg => ⟨[.dat d, .dat (lN (headsF m)), .dat (.int (i : Int)), .dat (.int (k : Int))], Fg.cons (Fg.cons (Fg.cons (Fg.no Fg.nil))), ?_⟩, fun hg => ?_⟩
          · exact SB.one (ST.no (ET.to test (by rw [hg]; rfl)) SB.nil)
          · exact SB.one (ST.yes (ET.to test (by rw [hg]; rfl)) (SB.one (ST.ret EV.bl)))
        by_cases h3 : (List.range i).all (lkAbv m i) = true
        · rw [if_pos h3]
          exact ⟨fun _ => ⟨[.dat d, .dat (lN (headsF m)), .dat (.int (i : Int)), .no], Fg.cons (Fg.cons (Fg.no (Fg.no Fg.nil))), loop _ (fun _ => SB.nil) (fun z => by rw [h3] at z; cases z)⟩, fun o z => by cases z⟩
        · rw [if_neg h3]
          refine ⟨fun z => (by cases z), fun o ho => ?_⟩
          cases ho
          exact loop _ (fun z => absurd z h3) (fun _ => rfl)
  · refine SB.one (ST.ret (EV.to EV.bl ?_))
    have : (List.range m.length).findSome? (lkStat m) = none := by
      rw [List.findSome?_eq_none_iff]
      intro i hi
      have := hall i (List.mem_range.mp hi)
      cases h : lkStat m i with
      | none => rfl
      | some b => rw [h] at this; cases this
    unfold looksB
    rw [this]
    rfl
  · cases h : lkStat m k with
    | none => rw [h] at ho; cases ho
    | some b =>
      rw [h] at ho
      cases ho
      have := findSome_first (f := lkStat m) hk h fun j hjk => by
        have := hj j hjk
        cases h2 : lkStat m j with
        | none => rfl
        | some b => rw [h2] at this; cases this
      unfold looksB
      rw [this]
      rfl
end
end
section
section
theorem cut_take {α : Type} {xs : List α} {i : Nat} (h : i ≤ xs.length) : cutD xs none (some (i : Int)) = xs.take i := cutD_nat h
theorem cut_drop {α : Type} {xs : List α} {i : Nat} (h : i ≤ xs.length) : cutD xs (some (i : Int)) none = xs.drop i := by
  unfold cutD
  have e1 : HT.sIx xs.length 0 (some (i : Int)) = i := by rw [HT.sIx_nat]; omega
  have e2 : HT.sIx xs.length xs.length none = xs.length := rfl
  rw [e1, e2, List.take_of_length_le (by rw [List.length_drop]; exact Nat.le_refl _)]
theorem sumN_bound {f : Nat → Int} {B : Nat} : ∀ n, (∀ k, k < n → (f k).natAbs ≤ B) → (sumN n f).natAbs ≤ n * B
  | 0, _ => by show (0 : Int).natAbs ≤ _; simp
  | n + 1, h => by
    have h1 := sumN_bound n fun k hk => h k (by omega)
    have h2 := h n (by omega)
    show (sumN n f + f n).natAbs ≤ _
    rw [Nat.add_mul, Nat.one_mul]
    omega
theorem sg_abs {k : Nat} : (sg k).natAbs = 1 := by unfold sg; omega
theorem dt_bound {m : Nat} : ∀ (vs : List Vc) (P : List Nat), P.length ≤ 8 → (∀ v ∈ vs, ∀ p, (v p).natAbs ≤ 2 ^ m) → (dt vs P).natAbs ≤ 2 ^ ((m + 3) * vs.length)
  | [], _, _, _ => by show (1 : Int).natAbs ≤ _; exact Nat.pow_pos (by decide)
  | v :: vs, P, hP, h => by
    have h1 := sumN_bound (f := fun k => sg k * v (P.getD k 0) * dt vs (P.eraseIdx k)) (B := 2 ^ m * 2 ^ ((m + 3) * vs.length)) P.length fun k hk => by
      rw [Int.natAbs_mul, Int.natAbs_mul, sg_abs, Nat.one_mul]
      exact Nat.mul_le_mul (h v (List.mem_cons_self ..) _) (dt_bound vs _ (by rw [List.length_eraseIdx]; split <;> omega) fun u hu => h u (List.mem_cons_of_mem _ hu))
    have h2 : P.length * (2 ^ m * 2 ^ ((m + 3) * vs.length)) ≤ 2 ^ 3 * (2 ^ m * 2 ^ ((m + 3) * vs.length)) := Nat.mul_le_mul_right _ hP
    have e : 2 ^ 3 * (2 ^ m * 2 ^ ((m + 3) * vs.length)) = 2 ^ ((m + 3) * (v :: vs).length) := by
      rw [← Nat.pow_add, ← Nat.pow_add, List.length_cons]
      congr 1
      rw [Nat.mul_add, Nat.mul_one]
      omega
    show (sumN _ _).natAbs ≤ _
    omega
end
section
variable {g : Pg}
/-- the numbers of some rows at some places -/
abbrev lnD (vs : List Vc) (P : List Nat) : List (List Int) := vs.map fun v => P.map v
theorem lnD_erase {v : Vc} {P : List Nat} {k : Nat} : (P.map v).take k ++ (P.map v).drop (k + 1) = (P.eraseIdx k).map v := by
  rw [List.eraseIdx_eq_take_drop_succ P k, List.map_append, List.map_take, List.map_drop]
theorem ok_law_det (W : Wd g) : ∀ n, FN g "_law_det" (n + 1) (P1 fun d r => ∃ vs P m, vs.length = n ∧ P.length = n ∧ n ≤ 8 ∧ (m + 3) * 9 ≤ 900000 ∧ (∀ v ∈ vs, ∀ p, (v p).natAbs ≤ 2 ^ m) ∧ d = lM (lnD vs P) ∧ r = .int (dt vs P)) := fun n => by
  induction n with
  | zero =>
    refine FN.mk1 W.t_law_det c_law_det (fun _ _ _ _ _ _ us hl => match us, hl with | [_], _ => rfl) (fun d r h => ?_)
    obtain ⟨vs, P, m, hl, hP, h8, hm, hv, rfl, rfl⟩ := h
    have : vs = [] := List.eq_nil_of_length_eq_zero hl
    subst this
    exact SB.cons (ST.set 1 (EV.len (n := 0) (EV.nm 0) rfl W.b.len) c_law_det.nd) (SB.stop (ST.yes (ET.to (ET.cm (EV.nm 1) EV.int CS.eqI) rfl) (SB.one (ST.ret EV.int))))
  | succ n ih =>
    refine FN.mk1 W.t_law_det c_law_det (fun _ _ _ _ _ _ us hl => match us, hl with | [_], _ => rfl) (fun d r h => ?_)
    obtain ⟨vs, P, m, hl, hP, h8, hm, hv, rfl, rfl⟩ := h
    cases vs with
    | nil => cases hl
    | cons v vs =>
      have hl' : vs.length = n := by simpa using hl
      have hlen : lenD (lM (lnD (v :: vs) P)) = some (n + 1) := by rw [len_lM, List.length_map, hl]
      let f : Nat → Int := fun k => sg k * v (P.getD k 0) * dt vs (P.eraseIdx k)
      let E_ : Nat → List O := fun k => [.dat (lM (lnD (v :: vs) P)), .dat (.int ((n + 1 : Nat) : Int)), .dat (.int (sumN k f)), .no, .no, .no]
      refine SB.cons (E1 := [.dat (lM (lnD (v :: vs) P)), .dat (.int ((n + 1 : Nat) : Int)), .no, .no, .no, .no]) (M1 := []) (ST.set 1 (EV.len (EV.nm 0) hlen W.b.len) c_law_det.nd) (SB.cons (ST.no (ET.to (ET.cm (EV.nm 1) EV.int CS.eqI) (by simp; omega)) SB.nil) (SB.cons (E1 := E_ 0) (M1 := []) (ST.set 2 EV.int c_law_det.nd) (SB.cons (E1 := E_ (n + 1)) (M1 := []) (ST.to (ST.forN 3 (n := n + 1) (E_ := E_) (M_ := fun _ => []) (EI.rng1 (j := ((n + 1 : Nat) : Int)) (EV.nm 1) W.b.range (by omega)) Fg.refl rfl (fun _ _ => True.intro) c_law_det.nd (fun k hk => ?_)) rfl) (SB.one (ST.ret (EV.to (EV.nm 2) ?_))))))
      · rw [atI0_eq]
        have hset : (E_ k).set 3 (.dat (.int (k : Int))) = [.dat (lM (lnD (v :: vs) P)), .dat (.int ((n + 1 : Nat) : Int)), .dat (.int (sumN k f)), .dat (.int (k : Int)), .no, .no] := rfl
        rw [hset]
        have hkP : k < P.length := by omega
        have e0 : gE (lnD (v :: vs) P) 0 k = v (P.getD k 0) := by
          show (P.map v).getD k 0 = _
          rw [List.getD_eq_getElem?_getD, List.getElem?_map, List.getElem?_eq_getElem hkP, List.getD_eq_getElem?_getD, List.getElem?_eq_getElem hkP]
          rfl
        have at0 : ∀ {E : List O} {p1 p2 p3 p4 p5 : Pos} {jj : Nat}, E[0]? = some (.dat (lM (lnD (v :: vs) P))) → E[3]? = some (.dat (.int (k : Int))) → EV (mkC g n_law_det s_law_det (n + 1)) (.Subscript (.Subscript (.Name "lines" p1) (.Constant (.int 0) jj p2) p3) (.Name "j" p4) p5) E [] (.dat (.int (v (P.getD k 0)))) [] := fun {E p1 p2 p3 p4 p5 jj} h1 h2 => EV.to (ev_at (i := 0) sq_l (EV.nm 0 rfl h1) EV.int (EV.nm 3 rfl h2) (by rw [List.length_map]; simp) (by show k < (P.map v).length; rw [List.length_map]; exact hkP)) (by rw [e0])
        by_cases hz : v (P.getD k 0) = 0
        · refine ⟨[.dat (lM (lnD (v :: vs) P)), .dat (.int ((n + 1 : Nat) : Int)), .dat (.int (sumN k f)), .dat (.int (k : Int)), .no, .no], ?_, SB.one (ST.no (ET.to (ET.cm (at0 rfl rfl) EV.int CS.neI) (by rw [decide_eq_true hz]; rfl)) SB.nil)⟩
          have : sumN (k + 1) f = sumN k f := by
            show sumN k f + sg k * v (P.getD k 0) * dt vs (P.eraseIdx k) = _
            rw [hz]
            simp
          show Fg _ [.dat (lM (lnD (v :: vs) P)), .dat (.int ((n + 1 : Nat) : Int)), .dat (.int (sumN (k + 1) f)), .no, .no, .no]
          rw [this]
          exact Fg.cons (Fg.cons (Fg.cons (Fg.no Fg.refl)))
        · refine ⟨[.dat (lM (lnD (v :: vs) P)), .dat (.int ((n + 1 : Nat) : Int)), .dat (.int (sumN (k + 1) f)), .dat (.int (k : Int)), .dat (.int (dt vs (P.eraseIdx k))), .no], Fg.cons (Fg.cons (Fg.cons (Fg.no (Fg.no Fg.refl)))), SB.one (ST.yes (ET.to (ET.cm (at0 rfl rfl) EV.int CS.neI) (by rw [decide_eq_false hz]; rfl)) ?_)⟩
          have hcut : cutD ((lnD (v :: vs) P).map lV) (some ((1 : Nat) : Int)) none = (lnD vs P).map lV := by
            rw [cut_drop (by rw [List.length_map, List.length_map]; simp)]
            rfl
          have hPl : (P.eraseIdx k).length = n := by rw [List.length_eraseIdx, if_pos hkP]; omega
          refine SB.cons (ST.set 4 (EV.c1 ih (LC.ev (LC.lM 5 (xs := vs) (f := fun u => lV (P.map u)) (g := fun u => lV ((P.eraseIdx k).map u)) (own := [("line", 5)]) (by rfl) c_law_det.nd rfl (EV.slL (EV.nm 0) (EO.some EV.int) EO.none) ?_ (Nat.le_refl _) OkM.refl (by omega) (fun u hu M => ?_))) ⟨vs, P.eraseIdx k, m, hl', hPl, by omega, hm, fun u hu => hv u (List.mem_cons_of_mem _ hu), ?_, rfl⟩ (Nat.ble_eq_true_of_le (Nat.le_refl _))) c_law_det.nd) (SB.one (ST.to (ST.set 2 (EV.add (EV.nm 2) (EV.mul (EV.mul (EV.sub EV.int (EV.mul EV.int (EV.mod (EV.intI (EV.nm 3) W.b.int) EV.int (by decide)) (mul_okL (by decide)))) (at0 rfl rfl) (mul_okL (by omega))) (EV.nm 4) ?_)) c_law_det.nd) ?_))
          · show some (cutD ((lnD (v :: vs) P).map lV) (some ((1 : Nat) : Int)) none) = _
            rw [hcut]
            show some ((vs.map fun u => P.map u).map lV) = _
            rw [List.map_map]
            rfl
          · have e1 : ((P.eraseIdx k).map u).map D.int = ((P.map u).map D.int).take k ++ ((P.map u).map D.int).drop (k + 1) := by rw [← lnD_erase, List.map_append, List.map_take, List.map_drop]
            have l1 : ((P.map u).map D.int).length = P.length := by rw [List.length_map, List.length_map]
            have c1 : cutD ((P.map u).map D.int) none (some (k : Int)) = ((P.map u).map D.int).take k := cut_take (by omega)
            have c2 : cutD ((P.map u).map D.int) (some ((k : Int) + 1)) none = ((P.map u).map D.int).drop (k + 1) := by
              rw [show ((k : Int) + 1) = ((k + 1 : Nat) : Int) by omega, cut_drop (by omega)]
            refine EV.to (EV.bin (EV.slL (EV.nm 5) EO.none (EO.some (EV.nm 3))) (EV.slL (EV.nm 5) (EO.some (EV.add (EV.nm 3) EV.int)) EO.none) (BS.addL ?_)) ?_
            · rw [c1, c2, List.length_take, List.length_drop]
              omega
            · rw [c1, c2, ← e1]
          · show D.lst (vs.map fun u => lV ((P.eraseIdx k).map u)) = .lst ((vs.map fun u => (P.eraseIdx k).map u).map lV)
            rw [List.map_map]
            rfl
          · have h1 : (v (P.getD k 0)).natAbs ≤ 2 ^ m := hv v (List.mem_cons_self ..) _
            have h2 := dt_bound (m := m) vs (P.eraseIdx k) (by omega) fun u hu => hv u (List.mem_cons_of_mem _ hu)
            have h3 : ((1 - 2 * ((k : Int) % 2)) * v (P.getD k 0)).natAbs ≤ 2 ^ m := by
              rw [Int.natAbs_mul]
              have : (1 - 2 * ((k : Int) % 2)).natAbs = 1 := by omega
              rw [this, Nat.one_mul]
              exact h1
            refine mul_ok (m := m + 1) (n := (m + 3) * vs.length + 1) (Nat.lt_of_le_of_lt h3 (Nat.pow_lt_pow_right (by decide) (by omega))) (Nat.lt_of_le_of_lt h2 (Nat.pow_lt_pow_right (by decide) (by omega))) (by omega) (by omega) ?_
            have : (m + 3) * vs.length ≤ (m + 3) * 8 := Nat.mul_le_mul_left _ (by omega)
            omega
          · show Out.nx [_, _, .dat (.int (sumN k f + (1 - 2 * ((k : Int) % 2)) * v (P.getD k 0) * dt vs (P.eraseIdx k))), _, _, _] [] = _
            have : (1 - 2 * ((k : Int) % 2)) = sg k := by unfold sg; omega
            rw [this]
            rfl
      · show O.dat (.int (sumN (n + 1) f)) = .dat (.int (sumN P.length f))
        rw [hP]
end
end
section
section
/-- dead cells, then one that lives -/
abbrev dz (k : Nat) (c : List D) : Mem := List.replicate k none ++ [some (c.map .dat)]
theorem dz_get {k : Nat} {c : List D} : (dz k c)[k]? = some (some (c.map .dat)) := by
  rw [List.getElem?_append_right (by rw [List.length_replicate]; exact Nat.le_refl _), List.length_replicate, Nat.sub_self]
  rfl
theorem dz_set {k : Nat} {c : List D} {y : Option (List O)} : (dz k c).set k y = List.replicate k none ++ [y] := by
  rw [List.set_append_right _ _ (by rw [List.length_replicate]; exact Nat.le_refl _), List.length_replicate, Nat.sub_self]
  rfl
theorem dz_app {k : Nat} {c : List D} {d : D} : (dz k c).set k (some (c.map .dat ++ [.dat d])) = dz k (c ++ [d]) := by
  rw [dz_set]
  show _ = List.replicate k none ++ [some ((c ++ [d]).map O.dat)]
  rw [List.map_append]
  rfl
theorem dz_dead {k : Nat} {c : List D} : (dz k c).set k none = List.replicate (k + 1) none := by rw [dz_set, List.replicate_succ']
theorem rep_len {k : Nat} : (List.replicate k (none : Option (List O))).length = k := List.length_replicate
/-- growing rows of places -/
def nxF (one : List Nat) : Nat := match one.getLast? with
  | none => 0
  | some x => x + 1
def extN (n : Nat) (one : List Nat) : List (List Nat) := (List.range (n - nxF one)).map fun i => one ++ [nxF one + i]
def chs (n : Nat) : Nat → List (List Nat)
  | 0 => [[]]
  | r + 1 => (chs n r).flatMap (extN n)
theorem chs_small : ∀ n, n ≤ 8 → ∀ r, r ≤ 8 → (chs n r).length ≤ 1000 := by decide +kernel
theorem flat_len {n : Nat} : ∀ l : List (List Nat), (l.flatMap (extN n)).length ≤ l.length * n
  | [] => by simp
  | x :: l => by
    have := flat_len (n := n) l
    have e : (extN n x).length = n - nxF x := by unfold extN; rw [List.length_map, List.length_range]
    rw [List.flatMap_cons, List.length_append, e, List.length_cons, Nat.add_mul]
    omega
theorem nx_app {init : List Nat} {l : Nat} : nxF (init ++ [l]) = l + 1 := by
  unfold nxF
  rw [List.getLast?_append]
  rfl
theorem app_cases {α : Type} (R : List α) : R = [] ∨ ∃ one x, R = one ++ [x] := by
  rcases List.eq_nil_or_concat R with h | ⟨one, x, h⟩
  · exact .inl h
  · exact .inr ⟨one, x, by rw [h, List.concat_eq_append]⟩
theorem nx_lt {one : List Nat} (h : one.Pairwise (· < ·)) : ∀ a ∈ one, a < nxF one := fun a ha => by
  rcases app_cases one with rfl | ⟨init, l, rfl⟩
  · simp at ha
  · rw [nx_app]
    rw [List.pairwise_append] at h
    rcases List.mem_append.mp ha with h1 | h1
    · have := h.2.2 a h1 l (List.mem_singleton.mpr rfl)
      omega
    · have := List.mem_singleton.mp h1
      omega
theorem chs_mem {n : Nat} : ∀ {r : Nat} {R : List Nat}, R ∈ chs n r ↔ R.Pairwise (· < ·) ∧ R.length = r ∧ ∀ i ∈ R, i < n
  | 0, R => by
    show R ∈ [[]] ↔ _
    rw [List.mem_singleton]
    constructor
    · rintro rfl
      exact ⟨List.Pairwise.nil, rfl, fun i hi => by simp at hi⟩
    · rintro ⟨_, h, _⟩
      exact List.eq_nil_of_length_eq_zero h
  | r + 1, R => by
    show R ∈ (chs n r).flatMap (extN n) ↔ _
    rw [List.mem_flatMap]
    constructor
    · rintro ⟨one, h1, h2⟩
      obtain ⟨p1, p2, p3⟩ := chs_mem.mp h1
      unfold extN at h2
      rw [List.mem_map] at h2
      obtain ⟨i, hi, rfl⟩ := h2
      rw [List.mem_range] at hi
      refine ⟨?_, by rw [List.length_append, p2]; rfl, fun a ha => ?_⟩
      · rw [List.pairwise_append]
        refine ⟨p1, List.pairwise_singleton .., fun a ha b hb => ?_⟩
        have := nx_lt p1 a ha
        have := List.mem_singleton.mp hb
        omega
      · rcases List.mem_append.mp ha with h3 | h3
        · exact p3 a h3
        · have := List.mem_singleton.mp h3
          omega
    · rintro ⟨p1, p2, p3⟩
      rcases app_cases R with rfl | ⟨one, x, rfl⟩
      · simp at p2
      · rw [List.pairwise_append] at p1
        have hx : x < n := p3 x (by simp)
        refine ⟨one, chs_mem.mpr ⟨p1.1, by simpa using p2, fun a ha => p3 a (by simp [ha])⟩, ?_⟩
        have hn : nxF one ≤ x := by
          rcases app_cases one with rfl | ⟨init, l, rfl⟩
          · exact Nat.zero_le _
          · rw [nx_app]
            exact p1.2.2 l (by simp) x (by simp)
        unfold extN
        rw [List.mem_map]
        exact ⟨x - nxF one, List.mem_range.mpr (by omega), by rw [show nxF one + (x - nxF one) = x by omega]⟩
abbrev cD (l : List (List Nat)) : List D := l.map lN
end
section
variable {g : Pg}
theorem ok_law_choices (W : Wd g) : FN g "_law_choices" 1 (P2 fun d e r => ∃ n k : Nat, n ≤ 8 ∧ k ≤ 8 ∧ d = .int (n : Int) ∧ e = .int (k : Int) ∧ r = .lst (cD (chs n k))) := by
  refine FN.mk2x' W.t_law_choices c_law_choices (fun _ _ _ _ _ _ us hl => match us, hl with | [_, _], _ => rfl) (fun d e r h => ?_)
  obtain ⟨n, r, hn, hr, rfl, rfl, rfl⟩ := h
  let F : D → O → O → O → O → O → List O := fun t k l o f i => [.dat (.int (n : Int)), .dat (.int (r : Int)), .dat t, k, l, o, f, i]
  have F4 : ∀ {t : D} {k l o f i : O} {o1 o2 o3 : O}, Fg (F t k l o f i) (F t k l .no .no .no) := Fg.cons (Fg.cons (Fg.cons (Fg.cons (Fg.cons (Fg.no (Fg.no (Fg.no Fg.nil)))))))
  refine ⟨List.replicate r none, SB.cons (E1 := F (.lst (cD (chs n 0))) .no .no .no .no .no) (M1 := []) (ST.set 2 (EV.lst (ds := [lN []]) (EA.cons (EV.lst (ds := []) EA.nil (by decide)) EA.nil) (by show 1 ≤ 100000; decide)) c_law_choices.nd) (SB.cons (ST.to (ST.forN 3 (n := r) (E_ := fun k => F (.lst (cD (chs n k))) .no .no .no .no .no) (M_ := fun k => List.replicate k none) (EI.rng1 (j := (r : Int)) (EV.nm 1) W.b.range (by omega)) Fg.refl rfl (fun _ _ => True.intro) c_law_choices.nd (fun k hk => ?_)) rfl) (SB.one (ST.ret (EV.nm 2))))⟩
  rw [atI0_eq]
  refine ⟨F (.lst (cD (chs n (k + 1)))) (.dat (.int (k : Int))) (.dat (.lst (cD (chs n (k + 1))))) .no .no .no, Fg.cons (Fg.cons (Fg.cons (Fg.no (Fg.no (Fg.no (Fg.no (Fg.no Fg.nil))))))), ?_⟩
  show SB _ _ (F (.lst (cD (chs n k))) (.dat (.int (k : Int))) .no .no .no .no) _ _
  have hsm : (chs n k).length ≤ 1000 := chs_small n hn k (by omega)
  have hcl : (cD (chs n k)).length = (chs n k).length := List.length_map _
  refine SB.cons (E1 := F (.lst (cD (chs n k))) (.dat (.int (k : Int))) (.adr k) .no .no .no) (M1 := dz k []) (ST.to (ST.set 4 (EV.cel EA.nil (by decide)) c_law_choices.nd) ?_) ?_
  · rw [rep_len]
    rfl
  refine SB.cons (E1 := F (.lst (cD (chs n k))) (.dat (.int (k : Int))) (.adr k) .no .no .no) (M1 := dz k (cD (chs n (k + 1)))) (ST.to (ST.forN 5 (E_ := fun _ => F (.lst (cD (chs n k))) (.dat (.int (k : Int))) (.adr k) .no .no .no) (M_ := fun j => dz k (cD (((chs n k).take j).flatMap (extN n)))) (EI.lst (EV.nm 2)) Fg.refl rfl (fun _ _ => True.intro) c_law_choices.nd (fun j hj => ?_)) ?_) ?_
  · have hj' : j < (chs n k).length := by omega
    rw [atO_map hj', List.take_succ_eq_append_getElem hj', List.flatMap_append]
    have e1 : List.flatMap (extN n) [(chs n k)[j]] = extN n (chs n k)[j] := by rw [List.flatMap_cons, List.flatMap_nil, List.append_nil]
    rw [e1]
    have hpre := flat_len (n := n) ((chs n k).take j)
    rw [List.length_take] at hpre
    have hpre2 : min j (chs n k).length * n ≤ 1000 * 8 := Nat.mul_le_mul (by omega) hn
    generalize ((chs n k).take j).flatMap (extN n) = pre at hpre
    have ho := chs_mem.mp (List.getElem_mem hj')
    generalize (chs n k)[j] = one at ho
    have hp : pre.length ≤ 8000 := by omega
    have hf : nxF one ≤ n := by
      rcases app_cases one with rfl | ⟨init, l, rfl⟩
      · exact Nat.zero_le _
      · rw [nx_app]
        exact ho.2.2 l (by simp)
    let G : O → O → List O := fun f i => F (.lst (cD (chs n k))) (.dat (.int (k : Int))) (.adr k) (.dat (lN one)) f i
    have loop : SB (mkC g n_law_choices s_law_choices 0) ((bodyOf ((bodyOf ((defBody s_law_choices).getD 1 (.Pass ⟨0, 0, 0, 0⟩))).getD 1 (.Pass ⟨0, 0, 0, 0⟩))).drop 2) (G (.dat (.int (nxF one : Int))) .no) (dz k (cD pre)) (.nx (G (.dat (.int (nxF one : Int))) .no) (dz k (cD (pre ++ extN n one)))) := by
      refine SB.one (ST.to (ST.forN 7 (n := ((n : Int) - (nxF one : Int)).toNat) (E_ := fun _ => G (.dat (.int (nxF one : Int))) .no) (M_ := fun i => dz k (cD (pre ++ (List.range i).map fun i => one ++ [nxF one + i]))) (EI.rng2 (EV.nm 6) (EV.nm 0) W.b.range ?_ (by omega)) Fg.refl (by rw [List.range_zero, List.map_nil, List.append_nil]) (fun _ _ => True.intro) c_law_choices.nd (fun i hi => ?_)) ?_)
      · omega
      · have ek : atI0 (nxF one : Int) i = .dat (.int ((nxF one + i : Nat) : Int)) := by
          unfold atI0
          rw [Int.natCast_add]
        rw [ek]
        refine ⟨G (.dat (.int (nxF one : Int))) (.dat (.int ((nxF one + i : Nat) : Int))), Fg.cons (Fg.cons (Fg.cons (Fg.cons (Fg.cons (Fg.cons (Fg.cons (Fg.no Fg.nil))))))), SB.one (ST.to (ST.exp (EV.append (n := k) (ps := (cD (pre ++ (List.range i).map fun i => one ++ [nxF one + i])).map O.dat) (EV.nm 4) (o := .dat (lN (one ++ [nxF one + i]))) (EV.to (EV.bin (EV.nm 5) (EV.lst (ds := [.int ((nxF one + i : Nat) : Int)]) (EA.cons (EV.nm 7) EA.nil) (by show 1 ≤ 100000; decide)) (BS.addL ?_)) ?_) dz_get dz_get ?_)) ?_)⟩
        · rw [List.length_map, ho.2.1]
          show k + 1 ≤ _
          omega
        · show O.dat (.lst (one.map _ ++ [_])) = .dat (.lst ((one ++ [_]).map _))
          rw [List.map_append]
          rfl
        · rw [List.length_map, List.length_map, List.length_append, List.length_map, List.length_range]
          omega
        · rw [dz_app]
          show Out.nx _ (dz k (cD _ ++ [lN _])) = Out.nx _ (dz k (cD _))
          congr 2
          rw [List.range_succ, List.map_append (f := fun i => one ++ [nxF one + i]), ← List.append_assoc]
          exact (List.map_append (f := lN) (l₂ := [one ++ [nxF one + i]])).symm
      · show Out.nx _ (dz k (cD (pre ++ (List.range ((n : Int) - (nxF one : Int)).toNat).map fun i => one ++ [nxF one + i]))) = _
        rw [show ((n : Int) - (nxF one : Int)).toNat = n - nxF one by omega]
        rfl
    rcases app_cases one with rfl | ⟨init, l, rfl⟩
    · exact ⟨G (.dat (.int (nxF [] : Int))) .no, Fg.cons (Fg.cons (Fg.cons (Fg.cons (Fg.cons (Fg.no (Fg.no (Fg.no Fg.nil))))))), SB.cons (ST.set 6 EV.int c_law_choices.nd) (SB.cons (ST.no (ET.to (ET.cm (EV.len (n := 0) (EV.nm 5) rfl W.b.len) EV.int CS.gtI) rfl) SB.nil) loop)⟩
    · refine ⟨G (.dat (.int (nxF (init ++ [l]) : Int))) .no, Fg.cons (Fg.cons (Fg.cons (Fg.cons (Fg.cons (Fg.no (Fg.no (Fg.no Fg.nil))))))), SB.cons (ST.set 6 EV.int c_law_choices.nd) (SB.cons (ST.yes (ET.to (ET.cm (EV.len (n := (init ++ [l]).length) (EV.nm 5) lN_len W.b.len) EV.int CS.gtI) (decide_eq_true (by rw [List.length_append, List.length_singleton]; omega))) (SB.one (ST.to (ST.set 6 (EV.add (i := (l : Int)) (EV.ix (EV.nm 5) (EV.neg EV.int) ?_) EV.int) c_law_choices.nd) ?_))) loop)⟩
      · have hm : ((init ++ [l]).map fun (k : Nat) => D.int (k : Int)).length = init.length + 1 := by rw [List.length_map, List.length_append]; rfl
        have e : atI ((init ++ [l]).map fun (k : Nat) => D.int (k : Int)) (-1) = some (.int (l : Int)) := by
          unfold atI ixN
          rw [hm, if_neg (by decide), if_pos (by omega), show (-1 + ((init.length + 1 : Nat) : Int)).toNat = init.length by omega]
          show ((init ++ [l]).map _)[init.length]? = _
          rw [List.getElem?_map, List.getElem?_append_right (Nat.le_refl _), Nat.sub_self]
          rfl
        exact e
      · rw [nx_app, Int.natCast_add]
        rfl
  · rw [hcl, List.take_length]
    rfl
  · refine SB.fz (jj := 4) (nn := k) (ds := cD (chs n (k + 1))) rfl dz_get ?_
    rw [dz_dead]
    exact SB.one (ST.set 2 (EV.nm 4) c_law_choices.nd)
end
end
section
section
/-- the greatest divisor by remainders -/
def eu : Nat → Nat → Nat → Nat × Nat
  | 0, x, y => (x, y)
  | k + 1, x, y => eu k y (x % y)
theorem eu_succ : ∀ (k x y : Nat), eu (k + 1) x y = ((eu k x y).2, (eu k x y).1 % (eu k x y).2)
  | 0, _, _ => rfl
  | k + 1, x, y => eu_succ k y (x % y)
theorem eu_gcd : ∀ (k x y : Nat), Nat.gcd (eu k x y).1 (eu k x y).2 = Nat.gcd x y
  | 0, _, _ => rfl
  | k + 1, x, y => by
    have := eu_gcd k y (x % y)
    show Nat.gcd (eu k y (x % y)).1 (eu k y (x % y)).2 = _
    rw [this]
    rw [Nat.gcd_comm y, ← Nat.gcd_rec, Nat.gcd_comm]
theorem eu_ends : ∀ (B x y : Nat), y < 2 ^ B → ∃ m, m ≤ 2 * B ∧ (eu m x y).2 = 0
  | 0, x, y, h => ⟨0, Nat.le_refl _, by show y = 0; omega⟩
  | B + 1, x, y, h => by
    by_cases h0 : y = 0
    · exact ⟨0, Nat.zero_le _, h0⟩
    by_cases h1 : x % y = 0
    · exact ⟨1, by omega, h1⟩
    have hlt : x % y < y := Nat.mod_lt _ (by omega)
    have h2 : y % (x % y) < 2 ^ B := by
      have a1 : y % (x % y) < x % y := Nat.mod_lt _ (by omega)
      have a2 := Nat.div_add_mod y (x % y)
      have a3 : 1 ≤ y / (x % y) := Nat.div_pos (by omega) (by omega)
      have a4 : x % y ≤ (x % y) * (y / (x % y)) := Nat.le_mul_of_pos_right _ a3
      have e : 2 ^ (B + 1) = 2 * 2 ^ B := by rw [Nat.pow_succ]; omega
      omega
    obtain ⟨m, hm, he⟩ := eu_ends B (x % y) (y % (x % y)) h2
    exact ⟨m + 2, by omega, he⟩
end
section
variable {g : Pg}
theorem ok_law_gcd (W : Wd g) : FN g "_law_gcd" 1 (P2 fun d e r => ∃ x y : Int, d = .int x ∧ e = .int y ∧ y.natAbs < 2 ^ 249 ∧ r = .int (Nat.gcd x.natAbs y.natAbs : Nat)) := by
  refine FN.mk2 W.t_law_gcd c_law_gcd (fun _ _ _ _ _ _ us hl => match us, hl with | [_, _], _ => rfl) (fun d e r h => ?_)
  obtain ⟨x, y, rfl, rfl, hy, rfl⟩ := h
  obtain ⟨m0, hm0, he0⟩ := eu_ends 249 x.natAbs y.natAbs hy
  obtain ⟨m, hm, he, hlow⟩ := least (P := fun m => (eu m x.natAbs y.natAbs).2 = 0) m0 he0
  have hres : (eu m x.natAbs y.natAbs).1 = Nat.gcd x.natAbs y.natAbs := by
    have := eu_gcd m x.natAbs y.natAbs
    rw [he, Nat.gcd_zero_right] at this
    exact this
  let E_ : Nat → List O := fun k => [.dat (.int ((eu k x.natAbs y.natAbs).1 : Int)), .dat (.int ((eu k x.natAbs y.natAbs).2 : Int)), .no, .no]
  refine SB.cons (E1 := [.dat (.int (x.natAbs : Int)), .dat (.int y), .no, .no]) (M1 := []) (ST.set 0 (EV.abs (EV.nm 0) W.b.abs) c_law_gcd.nd) (SB.cons (E1 := E_ 0) (M1 := []) (ST.set 1 (EV.abs (EV.nm 1) W.b.abs) c_law_gcd.nd) (SB.cons (E1 := [.dat (.int ((eu m x.natAbs y.natAbs).1 : Int)), .no, .no, .no]) (M1 := []) (ST.forget (E1 := [.dat (.int ((eu m x.natAbs y.natAbs).1 : Int)), .dat (.int ((eu m x.natAbs y.natAbs).2 : Int)), .dat (.int (m : Int)), .no]) (ST.for (n := 600) (m := m) (E_ := E_) (M_ := fun _ => []) (EI.rng1 EV.int W.b.range (by decide)) Fg.refl rfl (by omega) (fun _ _ => True.intro) (fun k hk => ?_) (.inr ⟨by omega, _, [], EG.nm 2 c_law_gcd.nd, .inr ⟨_, [], ?_, rfl⟩⟩)) (Fg.cons (Fg.no (Fg.no Fg.refl)))) (SB.one (ST.ret (EV.to (EV.nm 0) (by rw [hres]))))))
  · rw [atI0_eq]
    have hne := hlow k hk
    have hset : (E_ k).set 2 (.dat (.int (k : Int))) = [.dat (.int ((eu k x.natAbs y.natAbs).1 : Int)), .dat (.int ((eu k x.natAbs y.natAbs).2 : Int)), .dat (.int (k : Int)), .no] := rfl
    refine ⟨_, [], [.dat (.int ((eu (k + 1) x.natAbs y.natAbs).1 : Int)), .dat (.int ((eu (k + 1) x.natAbs y.natAbs).2 : Int)), .dat (.int (k : Int)), .dat (.int ((eu (k + 1) x.natAbs y.natAbs).2 : Int))], EG.nm 2 c_law_gcd.nd, Fg.cons (Fg.cons (Fg.no (Fg.no Fg.nil))), .inl ?_⟩
    rw [hset, eu_succ]
    have hpos : (0 : Int) < ((eu k x.natAbs y.natAbs).2 : Int) := by
      have : (eu k x.natAbs y.natAbs).2 ≠ 0 := hne
      omega
    generalize eu k x.natAbs y.natAbs = u at hpos
    refine SB.cons (ST.no (ET.to (ET.cm (EV.nm 1) EV.int CS.eqI) (decide_eq_false (by omega))) SB.nil) (SB.cons (ST.set 3 (EV.mod (EV.intI (EV.nm 0) W.b.int) (EV.nm 1) hpos) c_law_gcd.nd) (SB.cons (ST.set 0 (EV.nm 1) c_law_gcd.nd) (SB.one (ST.to (ST.set 1 (EV.nm 3) c_law_gcd.nd) ?_))))
    show Out.nx [_, .dat (.int ((u.1 : Int) % (u.2 : Int))), _, .dat (.int ((u.1 : Int) % (u.2 : Int)))] [] = Out.nx [_, .dat (.int ((u.1 % u.2 : Nat) : Int)), _, .dat (.int ((u.1 % u.2 : Nat) : Int))] []
    rw [Int.natCast_emod]
  · rw [atI0_eq]
    exact SB.stop (ST.yes (ET.to (ET.cm (EV.nm 1) EV.int CS.eqI) (decide_eq_true (by rw [he]; rfl))) (SB.one ST.brk))
/-- the greatest divisor of the determinants -/
def dvN (a : List (List Int)) (R : List Nat) (t : Nat) (Ps : List (List Nat)) : Nat := Ps.foldl (fun t P => Nat.gcd t (dt (R.map (rowV a)) P).natAbs) t
def dvF (a : List (List Int)) (t : Nat) (Rs Ps : List (List Nat)) : Nat := Rs.foldl (fun t R => dvN a R t Ps) t
theorem ok_law_divisor (W : Wd g) : FN g "_law_divisor" 10 (P2 fun d e r => ∃ (a : List (List Int)) (w k b : Nat), Sq d a ∧ a ≠ [] ∧ a.length ≤ 8 ∧ w ≤ 8 ∧ (∀ q ∈ a, q.length = w) ∧ k ≤ 8 ∧ e = .int (k : Int) ∧ (b + 3) * 9 ≤ 900000 ∧ (∀ i j, (gE a i j).natAbs ≤ 2 ^ b) ∧ (∀ R ∈ chs a.length k, ∀ P ∈ chs w k, (dt (R.map (rowV a)) P).natAbs < 2 ^ 249) ∧ r = .int (dvF a 0 (chs a.length k) (chs w k) : Nat)) := by
  refine FN.mk2x' W.t_law_divisor c_law_divisor (fun _ _ _ _ _ _ us hl => match us, hl with | [_, _], _ => rfl) (fun d e r h => ?_)
  obtain ⟨a, w, k, b, hs, hne, hn, hw, hq, hk, rfl, hb, hab, hsm, rfl⟩ := h
  have hpos : 0 < a.length := by
    cases a with
    | nil => exact absurd rfl hne
    | cons q r => simp
  obtain ⟨e0, e01, e02⟩ := hs.at_ hpos
  have hw0 : (a.getD 0 []).length = w := hq _ (mem_getD hpos)
  have hR : (chs a.length k).length ≤ 1000 := chs_small _ hn _ hk
  have hP : (chs w k).length ≤ 1000 := chs_small _ hw _ hk
  let F : Nat → O → O → O → O → O → O → List O := fun t c s p l i j => [.dat d, .dat (.int (k : Int)), .dat (.int (t : Int)), c, s, p, l, i, j]
  let cs : O := .dat (.lst (cD (chs w k)))
  generalize hRs : chs a.length k = Rs at hsm hR
  generalize hPs : chs w k = Ps at hsm hP
  have hcR : (cD Rs).length = Rs.length := List.length_map _
  have hcP : (cD Ps).length = Ps.length := List.length_map _
  refine ⟨List.replicate (Rs.length * Ps.length) none, SB.cons (E1 := F 0 .no .no .no .no .no .no) (M1 := []) (ST.set 2 EV.int c_law_divisor.nd) (SB.cons (E1 := F 0 (.dat (.lst (cD Ps))) .no .no .no .no .no) (M1 := []) (ST.set 3 (EV.c2 (ok_law_choices W) (EV.len (EV.ix (EV.nm 0) EV.int e01) (sqV_len e02) W.b.len) (EV.nm 1) ⟨w, k, hw, hk, by rw [hw0], rfl, by rw [hPs]⟩) c_law_divisor.nd) (SB.cons (E1 := F (dvF a 0 Rs Ps) (.dat (.lst (cD Ps))) .no .no .no .no .no) (M1 := List.replicate (Rs.length * Ps.length) none) (ST.to (ST.forN 4 (E_ := fun s => F (dvF a 0 (Rs.take s) Ps) (.dat (.lst (cD Ps))) .no .no .no .no .no) (M_ := fun s => List.replicate (s * Ps.length) none) (EI.lst (ds := cD Rs) (EV.c2 (ok_law_choices W) (EV.len (EV.nm 0) hs.len W.b.len) (EV.nm 1) ⟨a.length, k, hn, hk, rfl, rfl, by rw [hRs]⟩)) Fg.refl (by rw [Nat.zero_mul]; rfl) (fun _ _ => True.intro) c_law_divisor.nd (fun s hs' => ?_)) ?_) (SB.one (ST.ret (EV.nm 2)))))⟩
  · have hs2 : s < Rs.length := by omega
    rw [atO_map hs2, List.take_succ_eq_append_getElem hs2]
    have eF : dvF a 0 (Rs.take s ++ [Rs[s]]) Ps = dvN a Rs[s] (dvF a 0 (Rs.take s) Ps) Ps := by
      unfold dvF
      rw [List.foldl_append]
      rfl
    rw [eF]
    have hmR : Rs[s] ∈ Rs := List.getElem_mem hs2
    have hcR' := chs_mem.mp (show Rs[s] ∈ chs a.length k by rw [hRs]; exact hmR)
    have hsmR := hsm _ hmR
    generalize Rs[s] = R at hcR' hsmR
    generalize dvF a 0 (Rs.take s) Ps = t0
    refine ⟨F (dvN a R t0 Ps) (.dat (.lst (cD Ps))) (.dat (lN R)) .no .no .no .no, Fg.cons (Fg.cons (Fg.cons (Fg.cons (Fg.no Fg.refl)))), SB.one (ST.to (ST.forN 5 (E_ := fun p => F (dvN a R t0 (Ps.take p)) (.dat (.lst (cD Ps))) (.dat (lN R)) .no .no .no .no) (M_ := fun p => List.replicate (s * Ps.length + p) none) (EI.lst (ds := cD Ps) (EV.nm 3)) Fg.refl rfl (fun _ _ => True.intro) c_law_divisor.nd (fun p hp' => ?_)) ?_)⟩
    · have hp2 : p < Ps.length := by omega
      rw [atO_map hp2, List.take_succ_eq_append_getElem hp2]
      have eN : dvN a R t0 (Ps.take p ++ [Ps[p]]) = Nat.gcd (dvN a R t0 (Ps.take p)) (dt (R.map (rowV a)) Ps[p]).natAbs := by
        unfold dvN
        rw [List.foldl_append]
        rfl
      rw [eN]
      have hmP : Ps[p] ∈ Ps := List.getElem_mem hp2
      have hcP' := chs_mem.mp (show Ps[p] ∈ chs w k by rw [hPs]; exact hmP)
      have hsmP := hsmR _ hmP
      generalize Ps[p] = P at hcP' hsmP
      generalize dvN a R t0 (Ps.take p) = t1
      rw [← Nat.add_assoc]
      generalize s * Ps.length + p = c
      let G : O → O → List O := fun l i => F t1 (.dat (.lst (cD Ps))) (.dat (lN R)) (.dat (lN P)) l i .no
      have hRl : (R.map fun (k : Nat) => D.int (k : Int)).length = R.length := List.length_map _
      refine ⟨F (Nat.gcd t1 (dt (R.map (rowV a)) P).natAbs) (.dat (.lst (cD Ps))) (.dat (lN R)) (.dat (lN P)) (.dat (lM (lnD (R.map (rowV a)) P))) .no .no, Fg.cons (Fg.cons (Fg.cons (Fg.cons (Fg.cons (Fg.no (Fg.no Fg.refl)))))), ?_⟩
      refine SB.cons (E1 := G (.adr c) .no) (M1 := dz c []) (ST.to (ST.set 6 (EV.cel EA.nil (by decide)) c_law_divisor.nd) ?_) (SB.cons (E1 := G (.adr c) .no) (M1 := dz c ((lnD (R.map (rowV a)) P).map lV)) (ST.to (ST.forN 7 (E_ := fun _ => G (.adr c) .no) (M_ := fun i => dz c ((lnD ((R.take i).map (rowV a)) P).map lV)) (EI.lst (ds := R.map fun (k : Nat) => D.int (k : Int)) (EV.nm 4)) Fg.refl rfl (fun _ _ => True.intro) c_law_divisor.nd (fun i hi => ?_)) ?_) ?_)
      · rw [rep_len]
        rfl
      · have hi2 : i < R.length := by omega
        rw [atO_map hi2, List.take_succ_eq_append_getElem hi2]
        have hRi : R[i] < a.length := hcR'.2.2 _ (List.getElem_mem hi2)
        generalize hx : R[i] = x at hRi
        refine ⟨G (.adr c) (.dat (.int (x : Int))), Fg.cons (Fg.cons (Fg.cons (Fg.cons (Fg.cons (Fg.cons (Fg.cons (Fg.no Fg.refl))))))), SB.one (ST.to (ST.exp (EV.append (n := c) (ps := ((lnD ((R.take i).map (rowV a)) P).map lV).map O.dat) (EV.nm 6) (o := .dat (.lst (P.map fun y => .int (gE a x y)))) (LC.ev (LC.lM 8 (xs := P) (f := fun (k : Nat) => D.int (k : Int)) (g := fun y => .int (gE a x y)) (own := [("j", 8)]) (by rfl) c_law_divisor.nd rfl (EV.nm 5) rfl (Nat.le_refl _) OkM.refl (by omega) (fun y hy M => ?_))) dz_get dz_get ?_)) ?_)⟩
        · exact ev_at hs (EV.nm 0) (EV.nm 7) (EV.nm 8) hRi (by rw [hq _ (mem_getD hRi)]; exact hcP'.2.2 y hy)
        · rw [List.length_map, List.length_map, List.length_map, List.length_map, List.length_take]
          omega
        · rw [dz_app]
          have : D.lst (P.map fun y => .int (gE a x y)) = lV (P.map (rowV a x)) := by
            show D.lst _ = .lst _
            rw [List.map_map]
            rfl
          rw [this]
          show Out.nx _ (dz c _) = Out.nx _ (dz c _)
          congr 2
          show _ = ((List.map (rowV a) (List.take i R ++ [x])).map fun v => P.map v).map lV
          rw [List.map_append, List.map_append, List.map_append]
          rfl
      · rw [hRl, List.take_length]
      · refine SB.fz (jj := 6) (nn := c) (ds := (lnD (R.map (rowV a)) P).map lV) rfl dz_get ?_
        rw [dz_dead]
        refine SB.one (ST.to (ST.set 2 (EV.c2 (ok_law_gcd W) (EV.nm 2) (EV.c1 (ok_law_det W k) (EV.nm 6) ⟨R.map (rowV a), P, b, by rw [List.length_map]; exact hcR'.2.1, hcP'.2.1, hk, hb, fun v hv p => ?_, rfl, rfl⟩ (Nat.ble_eq_true_of_le (show k + 1 ≤ 9 by omega))) ⟨_, _, rfl, rfl, hsmP, rfl⟩) c_law_divisor.nd) ?_)
        · obtain ⟨i, _, rfl⟩ := List.mem_map.mp hv
          exact hab i p
        · rw [Int.natAbs_natCast]
          rfl
    · rw [hcP, List.take_length, Nat.add_mul, Nat.one_mul]
  · rw [hcR, List.take_length]
end
end
section
section
theorem sw_cell {elt : Expr} {gs : List Comprehension} {scope : Scope} {pos py : Pos} {y : Str} {l : Nat} {env : Env} (hy : env.scope.names.lookup y = some .cell) : swapsWith (.ListComp elt gs scope pos) (some (.Name y py)) l env = pure false := by
  have ky : env.kindOf y = some .cell := hy
  unfold swapsWith
  simp only [ky]
  have : (some NameKind.cell == some NameKind.local) = false := by decide
  rw [this, Bool.and_false]
  rfl
theorem ST.setC {C : Cc} {E : List O} {M M' : Mem} {o : O} {pos : Pos} (i : Nat) {x : Str} {e : Expr} {p' : Pos} (h : EV C e E M o M') (nd : C.N.Nodup) (hs : ∀ env : Env, env.scope = C.sc → swapsWith e (some (.Name x p')) pos.line env = pure false) (hi : C.N[i]? = some x := by rfl) (hx : Loc C.sc x := by first | exact Or.inl rfl | exact Or.inr rfl)
    (hf : C.fn x = true ∨ C.sc.names.lookup x = some .local := by first | exact .inl rfl | exact .inr rfl) : ST C (.Assign [.Name x p'] e pos) E M (.nx (E.set i o) M') :=
  ST.mk (fun X hX => ps_set (by rw [hX.N]; exact nd) (by rw [hX.N]; exact hi) (by rw [hX.sc]; exact hx) (ue hX e) (hs X.env hX.sc) (hf.elim (fun z => .inl (hX.fn x z)) (fun z => .inr (by rw [hX.sc]; exact z))))
    fun I H adr σ D s q => h I H adr σ _ s fun v I1 H1 adr1 s1 g1 v1 => q I1 H1 adr1 _ (s1.set v1) g1
end
section
variable {g : Pg}
theorem lead_eq {v : List Int} {p : Nat} (h1 : p < v.length) (h2 : v.getD p 0 ≠ 0) (h3 : ∀ j, j < p → v.getD j 0 = 0) : leadF v = some p := by
  cases hl : leadF v with
  | none => exact absurd (leadF_none hl p) h2
  | some q =>
    obtain ⟨a1, a2, a3⟩ := leadF_lt hl
    rcases Nat.lt_trichotomy p q with h | h | h
    · exact absurd (a3 p h) h2
    · rw [h]
    · exact absurd (h3 q h) a2
theorem lead_zero {v : List Int} (h : ∀ j, v.getD j 0 = 0) : leadF v = none := by
  cases hl : leadF v with
  | none => rfl
  | some q => exact absurd (h q) (leadF_lt hl).2.1
theorem HF.lead_row {h : List (List Int)} {w r : Nat} {pc : Nat → Nat} (f : HF h w r pc) {i : Nat} (hi : i < r) : leadF (h.getD i []) = some (pc i) := by
  have hl := f.wid _ (mem_getD (Nat.lt_of_lt_of_le hi f.le) : h.getD i [] ∈ h)
  exact lead_eq (by rw [hl]; exact f.lt i hi) (by have := f.pos i hi; unfold gE at this; omega) (fun j hj => f.left i hi j hj)
theorem HF.lead_low {h : List (List Int)} {w r : Nat} {pc : Nat → Nat} (f : HF h w r pc) {i : Nat} (hi : r ≤ i) : leadF (h.getD i []) = none := lead_zero fun j => f.low i hi j
theorem HF.hd {h : List (List Int)} {w r : Nat} {pc : Nat → Nat} (f : HF h w r pc) {i : Nat} (hi : i < r) : hd h i = pc i := by
  rw [hd_eq (Nat.lt_of_lt_of_le hi f.le)]
  unfold headF
  rw [f.lead_row hi]
theorem HF.hd_low {h : List (List Int)} {w r : Nat} {pc : Nat → Nat} (f : HF h w r pc) {i : Nat} (hi : r ≤ i) (hn : i < h.length) : Ab.hd h i = w := by
  rw [hd_eq hn]
  unfold headF
  rw [f.lead_low hi]
  exact f.wid _ (mem_getD hn)
theorem ok_law_sized (W : Wd g) : FN g "_law_sized" 1 (P3 fun d e f r => ∃ (h : List (List Int)) (n w : Nat), d = tM h ∧ e = .int (n : Int) ∧ f = .int (w : Int) ∧ h.length = n ∧ (∀ q ∈ h, q.length = w) ∧ r = .bl true) := by
  refine FN.mk3 W.t_law_sized c_law_sized (fun _ _ _ _ _ _ us hl => match us, hl with | [_, _, _], _ => rfl) (fun d e f r h => ?_)
  obtain ⟨h, n, w, rfl, rfl, rfl, hl, hw, rfl⟩ := h
  subst hl
  refine SB.cons (ST.no (ET.to (EW.et (EW.or (k1 := false) (ET.to (ET.not (ET.val (EV.isTuple (EV.nm 0) W.b.isinstance W.b.tuple))) rfl) (fun _ => EW.or1 (k := false) (ET.to (ET.cm (EV.len (EV.nm 0) len_tM W.b.len) (EV.nm 1) CS.neI) (by simp))) (fun _ => rfl))) rfl) SB.nil) (SB.cons (ST.forN 3 (n := (h.map tV).length) (E_ := fun _ => [.dat (tM h), .dat (.int (h.length : Int)), .dat (.int (w : Int)), .no, .no]) (M_ := fun _ => []) (EI.tup (EV.nm 0)) Fg.refl rfl (fun _ _ => True.intro) c_law_sized.nd (fun i hi => ?_)) (SB.one (ST.ret EV.bl)))
  have hi' : i < h.length := by rwa [List.length_map] at hi
  rw [atO_map hi']
  have hq := hw _ (List.getElem_mem hi')
  generalize h[i] = q at hq
  refine ⟨[.dat (tM h), .dat (.int (h.length : Int)), .dat (.int (w : Int)), .dat (tV q), .no], Fg.cons (Fg.cons (Fg.cons (Fg.no Fg.refl))), ?_⟩
  refine SB.cons (ST.no (ET.to (EW.et (EW.or (k1 := false) (ET.to (ET.not (ET.val (EV.isTuple (EV.nm 3) W.b.isinstance W.b.tuple))) rfl) (fun _ => EW.or1 (k := false) (ET.to (ET.cm (EV.len (EV.nm 3) len_tV W.b.len) (EV.nm 2) CS.neI) (by simp [hq]))) (fun _ => rfl))) rfl) SB.nil) (SB.one (ST.forN 4 (n := (q.map D.int).length) (E_ := fun _ => [.dat (tM h), .dat (.int (h.length : Int)), .dat (.int (w : Int)), .dat (tV q), .no]) (M_ := fun _ => []) (EI.tup (EV.nm 3)) Fg.refl rfl (fun _ _ => True.intro) c_law_sized.nd (fun j hj => ?_)))
  have hj' : j < q.length := by rwa [List.length_map] at hj
  rw [atO_map hj']
  exact ⟨[.dat (tM h), .dat (.int (h.length : Int)), .dat (.int (w : Int)), .dat (tV q), .dat (.int q[j])], Fg.cons (Fg.cons (Fg.cons (Fg.cons (Fg.no Fg.nil)))), SB.one (ST.no (ET.to (EW.et (EW.or (k1 := false) (ET.to (ET.not (ET.val (EV.isInt (EV.nm 4) W.b.isinstance W.b.int))) rfl) (fun _ => EW.or1 (k := false) (ET.to (ET.val (EV.isBool (EV.nm 4) W.b.isinstance W.b.bool)) rfl)) (fun _ => rfl))) rfl) SB.nil)⟩
/-- a row, the rows of the form taken off -/
def zStep (h : List (List Int)) (i : Nat) (left : List Int) : List Int := if hd h i < left.length then (List.range left.length).map fun c => left.getD c 0 - (left.getD (hd h i) 0).fdiv (gE h i (hd h i)) * gE h i c else left
def zRun (h : List (List Int)) (line : List Int) : Nat → List Int
  | 0 => line
  | i + 1 => zStep h i (zRun h line i)
theorem zStep_len {h : List (List Int)} {i : Nat} {l : List Int} : (zStep h i l).length = l.length := by
  unfold zStep
  split
  · rw [List.length_map, List.length_range]
  · rfl
theorem zRun_len {h : List (List Int)} {line : List Int} : ∀ i, (zRun h line i).length = line.length
  | 0 => rfl
  | i + 1 => by
    show (zStep h i (zRun h line i)).length = _
    rw [zStep_len, zRun_len i]
theorem range_get {f : Nat → Int} {n j : Nat} (h : j < n) : ((List.range n).map f).getD j 0 = f j := by
  rw [List.getD_eq_getElem?_getD, List.getElem?_map, List.getElem?_range h]
  rfl
theorem range_out {f : Nat → Int} {n j : Nat} (h : n ≤ j) : ((List.range n).map f).getD j 0 = 0 := by
  rw [List.getD_eq_getElem?_getD, List.getElem?_eq_none (by rw [List.length_map, List.length_range]; exact h)]
  rfl
theorem zStep_at {h : List (List Int)} {w r : Nat} {pc : Nat → Nat} (f : HF h w r pc) {i : Nat} (hi : i < r) {l : List Int} (hl : l.length = w) (j : Nat) : (zStep h i l).getD j 0 = l.getD j 0 - (l.getD (pc i) 0).fdiv (gE h i (pc i)) * gE h i j := by
  unfold zStep
  rw [f.hd hi, if_pos (by rw [hl]; exact f.lt i hi)]
  by_cases hj : j < l.length
  · rw [range_get hj]
  · rw [range_out (by omega), gE_wide f.wid (by omega : w ≤ j), List.getD_eq_getElem?_getD, List.getElem?_eq_none (by omega)]
    show (0 : Int) = 0 - _ * 0
    omega
theorem drop_row {h : List (List Int)} {i : Nat} (hi : i < h.length) : h.drop i = h.getD i [] :: h.drop (i + 1) := by
  rw [List.drop_eq_getElem_cons hi, List.getD_eq_getElem?_getD, List.getElem?_eq_getElem hi]
  rfl
theorem zRun_in {h : List (List Int)} {w r : Nat} {pc : Nat → Nat} (f : HF h w r pc) {line : List Int} (hl : line.length = w) (hv : InS h fun j => line.getD j 0) : ∀ i, i ≤ r → InS (h.drop i) fun j => (zRun h line i).getD j 0
  | 0, _ => hv
  | i + 1, hi => by
    have ih := zRun_in f hl hv i (by omega)
    have hir : i < r := hi
    have hih : i < h.length := Nat.lt_of_lt_of_le hir f.le
    rw [drop_row hih] at ih
    obtain ⟨c, hc⟩ := ih
    have hl2 : (zRun h line i).length = w := by rw [zRun_len, hl]
    show InS (h.drop (i + 1)) fun j => (zStep h i (zRun h line i)).getD j 0
    generalize zRun h line i = u at hc hl2
    have e1 : u.getD (pc i) 0 = c * gE h i (pc i) := by
      have := hc.van (j := pc i) (f.van hir (Nat.le_refl _))
      try dsimp only at this
      unfold gE
      omega
    have e2 : (u.getD (pc i) 0).fdiv (gE h i (pc i)) = c := by
      rw [e1]
      exact Int.mul_fdiv_cancel _ (by have := f.pos i hir; omega)
    refine hc.congr fun j => ?_
    show u.getD j 0 - c * gE h i j = (zStep h i u).getD j 0
    rw [zStep_at f hir hl2 j, e2]
theorem zRun_stay {h : List (List Int)} {w r : Nat} {pc : Nat → Nat} (f : HF h w r pc) {line : List Int} (hl : line.length = w) : ∀ k, r + k ≤ h.length → zRun h line (r + k) = zRun h line r
  | 0, _ => rfl
  | k + 1, hk => by
    show zStep h (r + k) (zRun h line (r + k)) = _
    rw [zRun_stay f hl k (by omega)]
    unfold zStep
    rw [f.hd_low (by omega) (by omega), if_neg (by rw [zRun_len, hl]; omega)]
theorem zRun_zero {h : List (List Int)} {w r : Nat} {pc : Nat → Nat} (f : HF h w r pc) {line : List Int} (hl : line.length = w) (hv : InS h fun j => line.getD j 0) (j : Nat) : (zRun h line h.length).getD j 0 = 0 := by
  have e : h.length = r + (h.length - r) := by have := f.le; omega
  rw [e, zRun_stay f hl _ (by omega)]
  exact (zRun_in f hl hv r (Nat.le_refl _)).van fun q hq => by
    obtain ⟨i, h1, h2, e⟩ := drop_mem hq
    rw [e]
    exact f.low i h1 j
theorem zRun_small {h : List (List Int)} {w r b : Nat} {pc : Nat → Nat} (f : HF h w r pc) {line : List Int} (hl : line.length = w) (hb : ∀ i j, (gE h i j).natAbs ≤ 2 ^ b) (h0 : ∀ j, (line.getD j 0).natAbs ≤ 2 ^ 20) : ∀ i, i ≤ h.length → ∀ j, ((zRun h line i).getD j 0).natAbs ≤ 2 ^ (20 + i * (b + 1))
  | 0, _, j => by simpa [zRun] using h0 j
  | i + 1, hi, j => by
    have ih := zRun_small f hl hb h0 i (by omega)
    have hl2 : (zRun h line i).length = w := by rw [zRun_len, hl]
    have hexp : 2 ^ (20 + (i + 1) * (b + 1)) = 2 ^ (20 + i * (b + 1)) * (2 * 2 ^ b) := by
      rw [Nat.add_mul, Nat.one_mul, ← Nat.add_assoc, Nat.pow_add, Nat.pow_succ, Nat.mul_comm (2 ^ b) 2]
    have h1 : 1 ≤ 2 ^ b := Nat.pow_pos (by decide)
    show ((zStep h i (zRun h line i)).getD j 0).natAbs ≤ _
    rw [hexp]
    generalize zRun h line i = u at ih hl2
    by_cases hir : i < r
    · rw [zStep_at f hir hl2 j]
      have q1 : ((u.getD (pc i) 0).fdiv (gE h i (pc i))).natAbs ≤ 2 ^ (20 + i * (b + 1)) := by
        have hp := f.pos i hir
        obtain ⟨p, hp2⟩ : ∃ p : Nat, gE h i (pc i) = (p : Int) := ⟨(gE h i (pc i)).toNat, by omega⟩
        rw [hp2]
        exact Nat.le_trans (fdiv_le (by omega)) (ih _)
      have q2 : ((u.getD (pc i) 0).fdiv (gE h i (pc i)) * gE h i j).natAbs ≤ 2 ^ (20 + i * (b + 1)) * 2 ^ b := by
        rw [Int.natAbs_mul]
        exact Nat.mul_le_mul q1 (hb i j)
      have q3 := ih j
      generalize (u.getD (pc i) 0).fdiv (gE h i (pc i)) * gE h i j = z at q2
      have q4 : 2 ^ (20 + i * (b + 1)) * (2 * 2 ^ b) = 2 ^ (20 + i * (b + 1)) * 2 ^ b + 2 ^ (20 + i * (b + 1)) * 2 ^ b := by rw [← Nat.mul_add]; congr 1; omega
      have q5 : 2 ^ (20 + i * (b + 1)) ≤ 2 ^ (20 + i * (b + 1)) * 2 ^ b := Nat.le_mul_of_pos_right _ h1
      rw [q4]
      omega
    · unfold zStep
      rw [f.hd_low (by omega) (by omega), if_neg (by omega)]
      exact Nat.le_trans (ih j) (Nat.le_mul_of_pos_right _ (by omega))
theorem ok_law_zeros (W : Wd g) : FN g "_law_zeros" 33 (P3 fun d e y r => ∃ (h : List (List Int)) (line : List Int) (w k b : Nat) (pc : Nat → Nat), HF h w k pc ∧ h.length ≤ 8 ∧ w ≤ 8 ∧ d = tM h ∧ e = lN (headsF h) ∧ seqD y = some (line.map D.int) ∧ line.length = w ∧ (InS h fun j => line.getD j 0) ∧ (∀ i j, (gE h i j).natAbs ≤ 2 ^ b) ∧ (∀ j, (line.getD j 0).natAbs ≤ 2 ^ 20) ∧ (b + 3) * 9 ≤ 900000 ∧ r = .bl true) := by
  refine FN.mk3 W.t_law_zeros c_law_zeros (fun _ _ _ _ _ _ us hl => match us, hl with | [_, _, _], _ => rfl) (fun d e y r h => ?_)
  obtain ⟨h, line, w, k, b, pc, f, h8, w8, rfl, rfl, hy, hlw, hv, hb, h0, hbb, rfl⟩ := h
  let F : List Int → O → O → List O := fun l i q => [.dat (tM h), .dat (lN (headsF h)), .dat y, .dat (lV l), i, q, .no]
  refine SB.cons (E1 := F (zRun h line 0) .no .no) (M1 := []) (ST.set 3 (EV.list (EV.nm 2) hy W.b.list) c_law_zeros.nd) (SB.cons (E1 := F (zRun h line h.length) .no .no) (M1 := []) (ST.to (ST.forN 4 (n := h.length) (E_ := fun i => F (zRun h line i) .no .no) (M_ := fun _ => []) (EI.rng1 (j := (h.length : Int)) (EV.len (EV.nm 0) len_tM W.b.len) W.b.range (by omega)) Fg.refl rfl (fun _ _ => True.intro) c_law_zeros.nd (fun i hi => ?_)) rfl) (SB.one (ST.ret (EV.to (EV.cm (EV.c1 (ok_law_most W) (EV.lst (ds := [lV (zRun h line h.length)]) (EA.cons (EV.nm 3) EA.nil) (by show 1 ≤ 100000; decide)) ⟨[zRun h line h.length], sq_l (m := [zRun h line h.length]), rfl⟩) EV.int CS.eqI) ?_))))
  · rw [atI0_eq]
    have hl2 : (zRun h line i).length = w := by rw [zRun_len, hlw]
    have hsm := zRun_small f hlw hb h0 i (by omega)
    show ∃ E2, Fg E2 (F (zStep h i (zRun h line i)) .no .no) ∧ SB _ _ (F (zRun h line i) (.dat (.int (i : Int))) .no) _ _
    have hz : 20 + i * (b + 1) + b + 2 ≤ 950000 := by
      have : i * (b + 1) ≤ 8 * (b + 1) := Nat.mul_le_mul_right _ (by omega)
      omega
    by_cases hir : i < k
    · have hhd := f.hd hir
      have hlt := f.lt i hir
      have hhl : (h.getD i []).length = w := f.wid _ (mem_getD hi)
      have hst : zStep h i (zRun h line i) = (List.range w).map fun c => (zRun h line i).getD c 0 - ((zRun h line i).getD (pc i) 0).fdiv (gE h i (pc i)) * gE h i c := by
        unfold zStep
        rw [hhd, hl2, if_pos hlt]
      rw [hst]
      have hq : (((zRun h line i).getD (pc i) 0).fdiv (gE h i (pc i))).natAbs ≤ 2 ^ (20 + i * (b + 1)) := by
        have hp := f.pos i hir
        obtain ⟨p, hp2⟩ : ∃ p : Nat, gE h i (pc i) = (p : Int) := ⟨(gE h i (pc i)).toNat, by omega⟩
        rw [hp2]
        exact Nat.le_trans (fdiv_le (by omega)) (hsm _)
      generalize zRun h line i = u at hl2 hsm hq
      generalize hqq : (u.getD (pc i) 0).fdiv (gE h i (pc i)) = q at hq
      have e1 : ∀ {p1 p2 p3 : Pos}, EV (mkC g n_law_zeros s_law_zeros 32) (.Subscript (.Name "heads" p1) (.Name "i" p2) p3) (F u (.dat (.int (i : Int))) .no) [] (.dat (.int (pc i : Int))) [] := fun {p1 p2 p3} => EV.to (EV.ix (EV.nm 1) (EV.nm 4) (hd_at hi)) (by rw [hhd])
      refine ⟨F ((List.range w).map fun c => u.getD c 0 - q * gE h i c) (.dat (.int (i : Int))) (.dat (.int q)), Fg.cons (Fg.cons (Fg.cons (Fg.cons (Fg.no (Fg.no Fg.refl))))), SB.one (ST.yes (ET.to (ET.cm e1 (EV.len (EV.nm 3) len_lV W.b.len) CS.ltI) (decide_eq_true (by omega))) (SB.cons (E1 := F u (.dat (.int (i : Int))) (.dat (.int q))) (M1 := []) (ST.to (ST.set 5 (EV.bin (EV.ix (EV.nm 3) e1 (ix_lV (by omega))) (ev_at (j := pc i) sq_t (EV.nm 0) (EV.nm 4) e1 hi (by omega)) (BS.fdivX W.seer W.tree (by have := f.pos i hir; omega))) c_law_zeros.nd) ?_) (SB.one (ST.to (ST.setC 3 (LC.ev (LC.lR 6 (j := (w : Int)) (g := fun c => .int (u.getD c 0 - q * gE h i c)) (own := [("c", 6)]) (by rfl) c_law_zeros.nd rfl (EV.to (EV.len (EV.nm 3) len_lV W.b.len) (by rw [hl2])) W.b.range (Nat.le_refl _) OkM.refl (by omega) (fun c hc M => ?_))) c_law_zeros.nd (fun env he => sw_cell (by rw [he]; rfl))) ?_))))⟩
      · rw [hqq]
        rfl
      · have hc' : c < w := by omega
        exact EV.sub (EV.ix (EV.nm 3) (EV.nm 6) (ix_lV (by omega))) (EV.mul (EV.nm 5) (ev_at (j := c) sq_t (EV.nm 0) (EV.nm 4) (EV.nm 6) hi (by omega)) (mul_ok (m := 20 + i * (b + 1) + 1) (n := b + 1) (Nat.lt_of_le_of_lt hq (Nat.pow_lt_pow_right (by decide) (by omega))) (Nat.lt_of_le_of_lt (hb i c) (Nat.pow_lt_pow_right (by decide) (by omega))) (by omega) (by omega) (by omega)))
      · rw [Int.toNat_natCast]
        show Out.nx [_, _, _, .dat (.lst ((List.range w).map fun c => .int (u.getD c 0 - q * gE h i c))), _, _, _] [] = Out.nx [_, _, _, .dat (.lst (((List.range w).map fun c => u.getD c 0 - q * gE h i c).map D.int)), _, _, _] []
        rw [List.map_map]
        rfl
    · have hhd := f.hd_low (by omega : k ≤ i) hi
      have hst : zStep h i (zRun h line i) = zRun h line i := by
        unfold zStep
        rw [hhd, hl2, if_neg (by omega)]
      rw [hst]
      generalize zRun h line i = u at hl2
      exact ⟨F u (.dat (.int (i : Int))) .no, Fg.cons (Fg.cons (Fg.cons (Fg.cons (Fg.no Fg.refl)))), SB.one (ST.no (ET.to (ET.cm (EV.to (EV.ix (EV.nm 1) (EV.nm 4) (hd_at hi)) (by rw [hhd])) (EV.len (EV.nm 3) len_lV W.b.len) CS.ltI) (decide_eq_false (by omega))) SB.nil)⟩
  · have : mostF [zRun h line h.length] = 0 := by
      have : mostF [zRun h line h.length] ≤ 0 := mostF_le.mpr fun q hq x hx => by
        rw [List.mem_singleton.mp hq] at hx
        obtain ⟨j, hj, e⟩ := List.getElem_of_mem hx
        have := zRun_zero f hlw hv j
        rw [List.getD_eq_getElem?_getD, List.getElem?_eq_getElem hj, e] at this
        have : x = 0 := this
        omega
      omega
    rw [this]
    rfl
end
end
section
section
structure Rsl (a h : List (List Int)) : Prop where
  hl : h.length = a.length
  fm : ∃ r pc, HF h (wd a) r pc
  s1 : Sub h a
  s2 : Sub a h
  bd : ∀ i j, (gE h i j).natAbs ≤ 2 ^ (nb (wd a)).2.1
theorem HOf.rsl {a h : List (List Int)} (H : HOf a h) : Rsl a h := by
  obtain ⟨mm, hm, _, C, rfl⟩ := H
  generalize hw a mm (wd a) = u at C
  obtain ⟨pc, e⟩ := C.ech
  obtain ⟨s1, s2⟩ := C.rch.span
  refine ⟨C.wf.r, ⟨u.2, pc, ⟨by rw [C.wf.r]; exact C.tp, C.wf.rw, e.lt, e.inc, e.left, e.pos, e.abv, fun i hi j => ?_⟩⟩, s1, s2, C.ab⟩
  by_cases hj : j < wd a
  · exact e.low i hi j hj
  · exact gE_wide C.wf.rw (by omega)
theorem Rsl.uniq {a a2 h h2 : List (List Int)} (r1 : Rsl a h) (r2 : Rsl a2 h2) (hl : a.length = a2.length) (hw : wd a = wd a2) (s1 : Sub a a2) (s2 : Sub a2 a) : h = h2 := by
  obtain ⟨r, pc, f⟩ := r1.fm
  obtain ⟨q, pd, f2⟩ := r2.fm
  rw [← hw] at f2
  exact f.uniq f2 (by rw [r1.hl, r2.hl, hl]) ((r1.s1.trans s1).trans r2.s2) ((r2.s1.trans s2).trans r1.s2)
theorem HF.wdh {h : List (List Int)} {w r : Nat} {pc : Nat → Nat} (f : HF h w r pc) (hn : h ≠ []) : wd h = w := by
  cases h with
  | nil => exact absurd rfl hn
  | cons q l => exact f.wid q List.mem_cons_self
theorem HF.looks {h : List (List Int)} {w r : Nat} {pc : Nat → Nat} (f : HF h w r pc) : looksB h = true := by
  unfold looksB
  cases hs : (List.range h.length).findSome? (lkStat h) with
  | none => rfl
  | some b =>
    obtain ⟨i, hi, hb⟩ := List.exists_of_findSome?_eq_some hs
    rw [List.mem_range] at hi
    have hne : h ≠ [] := fun e => by subst e; exact absurd hi (Nat.not_lt_zero _)
    show b = true
    unfold lkStat at hb
    rw [f.wdh hne] at hb
    by_cases hr : i < r
    · rw [f.hd hr, if_neg (by have := f.lt i hr; omega), if_neg (by have := f.pos i hr; omega)] at hb
      have : (List.range i).all (lkAbv h i) = true := by
        rw [List.all_eq_true]
        intro k hk
        rw [List.mem_range] at hk
        have a1 := f.abv k i hk hr
        have a2 := f.inc k i hk hr
        unfold lkAbv
        rw [f.hd hr, f.hd (by omega : k < r), decide_eq_false (by omega), decide_eq_true a1.1, decide_eq_true a1.2]
        rfl
      rw [if_pos this] at hb
      cases hb
    · rw [f.hd_low (by omega) hi, if_pos rfl] at hb
      have : ((List.range (h.length - i)).all fun k => decide (Ab.hd h (i + k) = w)) = true := by
        rw [List.all_eq_true]
        intro k hk
        rw [List.mem_range] at hk
        exact decide_eq_true (f.hd_low (by omega) (by omega))
      rw [this] at hb
      exact (Option.some.inj hb).symm
theorem HF.heads {h : List (List Int)} {w r : Nat} {pc : Nat → Nat} (f : HF h w r pc) : headsF h = (List.range r).map pc ++ List.replicate (h.length - r) w := by
  have hrl := f.le
  refine List.ext_getElem (by unfold headsF; rw [List.length_map, List.length_append, List.length_map, List.length_range, List.length_replicate]; omega) fun i h1 h2 => ?_
  have hi : i < h.length := by unfold headsF at h1; rwa [List.length_map] at h1
  have e : (headsF h)[i] = Ab.hd h i := by unfold Ab.hd; rw [List.getD_eq_getElem?_getD, List.getElem?_eq_getElem h1]; rfl
  rw [e]
  by_cases hr : i < r
  · rw [List.getElem_append_left (by rw [List.length_map, List.length_range]; exact hr), f.hd hr, List.getElem_map, List.getElem_range]
  · rw [List.getElem_append_right (by rw [List.length_map, List.length_range]; omega), List.getElem_replicate, f.hd_low (by omega) hi]
theorem HF.live {h : List (List Int)} {w r : Nat} {pc : Nat → Nat} (f : HF h w r pc) : (headsF h).filter (fun x => decide (x < w)) = (List.range r).map pc := by
  rw [f.heads, List.filter_append]
  have e1 : ((List.range r).map pc).filter (fun x => decide (x < w)) = (List.range r).map pc := by
    rw [List.filter_eq_self]
    intro x hx
    obtain ⟨i, hi, rfl⟩ := List.mem_map.mp hx
    exact decide_eq_true (f.lt i (List.mem_range.mp hi))
  have e2 : (List.replicate (h.length - r) w).filter (fun x => decide (x < w)) = [] := by
    rw [List.filter_eq_nil_iff]
    intro x hx
    rw [List.eq_of_mem_replicate hx]
    simp
  rw [e1, e2, List.append_nil]
/-! ### the greatest divisor -/
theorem dvN_dvd {a : List (List Int)} {R : List Nat} {k : Nat} : ∀ (Ps : List (List Nat)) (t : Nat), k ∣ dvN a R t Ps ↔ k ∣ t ∧ ∀ P ∈ Ps, k ∣ (dt (R.map (rowV a)) P).natAbs
  | [], t => by simp [dvN]
  | P :: Ps, t => by
    show k ∣ dvN a R (Nat.gcd t _) Ps ↔ _
    rw [dvN_dvd Ps, Nat.dvd_gcd_iff]
    simp only [List.mem_cons, forall_eq_or_imp]
    exact and_assoc
theorem dvF_dvd {a : List (List Int)} {Ps : List (List Nat)} {k : Nat} : ∀ (Rs : List (List Nat)) (t : Nat), k ∣ dvF a t Rs Ps ↔ k ∣ t ∧ ∀ R ∈ Rs, ∀ P ∈ Ps, k ∣ (dt (R.map (rowV a)) P).natAbs
  | [], t => by simp [dvF]
  | R :: Rs, t => by
    show k ∣ dvF a (dvN a R t Ps) Rs Ps ↔ _
    rw [dvF_dvd Rs, dvN_dvd]
    simp only [List.mem_cons, forall_eq_or_imp]
    exact and_assoc
theorem dv_le {a h : List (List Int)} {r w : Nat} (s : Sub h a) : dvF a 0 (chs a.length r) (chs w r) ∣ dvF h 0 (chs h.length r) (chs w r) := by
  rw [dvF_dvd]
  refine ⟨Nat.dvd_zero _, fun R hR P hP => ?_⟩
  have hR' := chs_mem.mp hR
  have := minors_dvd (d := ((dvF a 0 (chs a.length r) (chs w r) : Nat) : Int)) (P := P) s (fun R2 p1 p2 p3 => by
    rw [Int.ofNat_dvd_left]
    exact ((dvF_dvd (chs a.length r) 0).mp (Nat.dvd_refl _)).2 R2 (chs_mem.mpr ⟨p1, p2, p3⟩) P hP) R hR'.2.1 hR'.2.2
  rwa [Int.ofNat_dvd_left] at this
theorem dv_eq {a h : List (List Int)} {r w : Nat} (s1 : Sub h a) (s2 : Sub a h) : dvF a 0 (chs a.length r) (chs w r) = dvF h 0 (chs h.length r) (chs w r) := Nat.dvd_antisymm (dv_le s1) (dv_le s2)
/-- the form's rows, and one of zeros -/
def trim (h : List (List Int)) (r w : Nat) : List (List Int) := h.take r ++ [List.replicate w 0]
theorem trim_len {h : List (List Int)} {r w : Nat} (hr : r ≤ h.length) : (trim h r w).length = r + 1 := by
  unfold trim
  rw [List.length_append, List.length_take]
  simp
  omega
theorem rep_zero {w j : Nat} : (List.replicate w (0 : Int)).getD j 0 = 0 := by
  rw [List.getD_eq_getElem?_getD, List.getElem?_replicate]
  split <;> rfl
theorem trim_at {h : List (List Int)} {r w : Nat} (hr : r ≤ h.length) {i j : Nat} : gE (trim h r w) i j = if i < r then gE h i j else 0 := by
  have ht : (h.take r).length = r := by rw [List.length_take]; omega
  unfold gE trim
  by_cases hi : i < r
  · rw [if_pos hi, List.getD_eq_getElem?_getD (l := h.take r ++ _), List.getElem?_append_left (by omega), List.getElem?_take_of_lt hi, List.getD_eq_getElem?_getD (l := h)]
  · rw [if_neg hi, List.getD_eq_getElem?_getD (l := h.take r ++ _), List.getElem?_append_right (by omega), ht]
    by_cases h0 : i - r = 0
    · rw [h0]
      exact rep_zero
    · rw [List.getElem?_eq_none (by simp; omega)]
      rfl
theorem trim_sub {h : List (List Int)} {w r : Nat} {pc : Nat → Nat} (f : HF h w r pc) : Sub (trim h r w) h ∧ Sub h (trim h r w) := by
  constructor
  · refine Sub.ix fun i hi => ?_
    by_cases hr : i < r
    · exact (InS.ix (Nat.lt_of_lt_of_le hr f.le)).congr fun j => by rw [trim_at f.le, if_pos hr]
    · exact InS.zero.congr fun j => by rw [trim_at f.le, if_neg hr]
  · refine Sub.ix fun i hi => ?_
    by_cases hr : i < r
    · exact (InS.ix (l := trim h r w) (i := i) (by rw [trim_len f.le]; omega)).congr fun j => by rw [trim_at f.le, if_pos hr]
    · exact InS.zero.congr fun j => by rw [f.low i (by omega) j]
theorem sorted_range : ∀ (r : Nat) (R : List Nat), R.Pairwise (· < ·) → R.length = r → (∀ i ∈ R, i < r) → R = List.range r
  | 0, R, _, h, _ => List.eq_nil_of_length_eq_zero h
  | r + 1, R, p, hl, hb => by
    rcases app_cases R with rfl | ⟨one, x, rfl⟩
    · simp at hl
    · rw [List.pairwise_append] at p
      have hx : x < r + 1 := hb x (by simp)
      have hl1 : one.length = r := by simpa using hl
      have h1 := sorted_range r one p.1 hl1 fun a ha => by
        have := p.2.2 a ha x (by simp)
        omega
      subst h1
      have hx2 : x = r := by
        rcases Nat.eq_zero_or_pos r with h0 | h0
        · omega
        · have := p.2.2 (r - 1) (List.mem_range.mpr (by omega)) x (by simp)
          omega
      rw [hx2, List.range_succ]
theorem a_small {a : List (List Int)} (h : Mx a) (i j : Nat) : (gE a i j).natAbs ≤ 2 ^ 20 := by
  unfold gE
  by_cases hi : i < a.length
  · by_cases hj : j < (a.getD i []).length
    · have := h.num _ (mem_getD hi) _ (mem_getD (a0 := 0) hj)
      have e : (2 : Nat) ^ 20 = 1048576 := by decide
      omega
    · rw [List.getD_eq_getElem?_getD (l := a.getD i []), List.getElem?_eq_none (by omega)]
      exact Nat.zero_le _
  · rw [List.getD_eq_getElem?_getD (l := a), List.getElem?_eq_none (by omega)]
    exact Nat.zero_le _
theorem minor_small {a : List (List Int)} (h : Mx a) {k w : Nat} (hk : k ≤ 8) : ∀ R ∈ chs a.length k, ∀ P ∈ chs w k, (dt (R.map (rowV a)) P).natAbs < 2 ^ 249 := fun R hR P hP => by
  have hR' := chs_mem.mp hR
  have hP' := chs_mem.mp hP
  have := dt_bound (m := 20) (R.map (rowV a)) P (by omega) fun v hv p => by
    obtain ⟨i, _, rfl⟩ := List.mem_map.mp hv
    exact a_small h i p
  rw [List.length_map, hR'.2.1] at this
  exact Nat.lt_of_le_of_lt this (Nat.pow_lt_pow_right (by decide) (by omega))
theorem trim_small {a h : List (List Int)} (hm : Mx a) {w r : Nat} {pc : Nat → Nat} (f : HF h w r pc) (s1 : Sub h a) (s2 : Sub a h) (hr : r ≤ 8) : ∀ R ∈ chs (trim h r w).length r, ∀ P ∈ chs w r, (dt (R.map (rowV (trim h r w))) P).natAbs < 2 ^ 249 := fun R hR P hP => by
  have hz : ∀ R2 : List Nat, r ∈ R2 → dt (R2.map (rowV (trim h r w))) P = 0 := fun R2 h2 => by
    obtain ⟨l1, l2, rfl⟩ := List.append_of_mem h2
    have : rowV (trim h r w) r = fun _ => 0 := funext fun j => by
      show gE _ _ _ = 0
      rw [trim_at f.le, if_neg (by omega)]
    rw [List.map_append, List.map_cons, this, dt_zero]
  have hst : ∀ R2 ∈ chs (trim h r w).length r, r ∉ R2 → R2 = List.range r := fun R2 h2 hn => by
    obtain ⟨p1, p2, p3⟩ := chs_mem.mp h2
    refine sorted_range r R2 p1 p2 fun i hi => ?_
    have := p3 i hi
    rw [trim_len f.le] at this
    have : i ≠ r := fun e => hn (e ▸ hi)
    omega
  obtain ⟨t1, t2⟩ := trim_sub f
  have sa : Sub (trim h r w) a := t1.trans s1
  have sb : Sub a (trim h r w) := s2.trans t2
  by_cases hmem : r ∈ R
  · rw [hz R hmem]
    exact Nat.pow_pos (by decide)
  · have hR' := chs_mem.mp hR
    have key := minors_dvd (d := dt (R.map (rowV (trim h r w))) P) (P := P) (r := r) sb (fun R2 p1 p2 p3 => by
      by_cases h2 : r ∈ R2
      · rw [hz R2 h2]
        exact Int.dvd_zero _
      · rw [hst R2 (chs_mem.mpr ⟨p1, p2, p3⟩) h2, hst R hR hmem]
        exact Int.dvd_refl _)
    by_cases hall : ∀ R2 ∈ chs a.length r, dt (R2.map (rowV a)) P = 0
    · have := minors_dvd (d := 0) (P := P) (r := r) sa (fun R2 p1 p2 p3 => by
        rw [hall R2 (chs_mem.mpr ⟨p1, p2, p3⟩)]
        exact Int.dvd_refl _) R hR'.2.1 hR'.2.2
      rw [Int.zero_dvd.mp this]
      exact Nat.pow_pos (by decide)
    · obtain ⟨R2, h2⟩ := Classical.not_forall.mp hall
      obtain ⟨h3, h4⟩ := Classical.not_imp.mp h2
      have h5 := chs_mem.mp h3
      have h6 := key R2 h5.2.1 h5.2.2
      have h7 := minor_small hm hr R2 h3 P hP
      have h8 : (dt (R.map (rowV (trim h r w))) P).natAbs ≤ (dt (R2.map (rowV a)) P).natAbs := Nat.le_of_dvd (by omega) (Int.natAbs_dvd_natAbs.mpr h6)
      omega
end
end
section
section
variable {g : Pg}
theorem repI {x : Int} (k : Nat) : (List.replicate k [D.int x]).flatten = (List.replicate k x).map D.int := by
  induction k with
  | zero => rfl
  | succ k ih =>
    rw [List.replicate_succ, List.flatten_cons, ih, List.replicate_succ]
    rfl
theorem nb_four : ∀ w, w ≤ 4 → ((nb w).2.1 + 3) * 9 ≤ 900000 := by decide
theorem HF.pc_ge {h : List (List Int)} {w r : Nat} {pc : Nat → Nat} (f : HF h w r pc) : ∀ i, i < r → i ≤ pc i
  | 0, _ => Nat.zero_le _
  | i + 1, hi => by
    have := f.pc_ge i (by omega)
    have := f.inc i (i + 1) (by omega) hi
    omega
theorem HF.r_le {h : List (List Int)} {w r : Nat} {pc : Nat → Nat} (f : HF h w r pc) : r ≤ w := by
  rcases Nat.eq_zero_or_pos r with h0 | h0
  · omega
  · have := f.pc_ge (r - 1) (by omega)
    have := f.lt (r - 1) (by omega)
    omega
theorem ok_law_right (W : Wd g) : FN g "_law_right" 34 (P2 fun d e r => ∃ a h, Sq d a ∧ e = tM h ∧ Mx a ∧ wd a ≤ 4 ∧ Rsl a h ∧ r = .bl true) := by
  refine FN.mk2 W.t_law_right c_law_right (fun _ _ _ _ _ _ us hl => match us, hl with | [_, _], _ => rfl) (fun d e r h => ?_)
  obtain ⟨a, h, hs, rfl, hm, h4, R, rfl⟩ := h
  obtain ⟨r, pc, f⟩ := R.fm
  have hal : 0 < a.length := by have := hm.l1; omega
  have hal8 := hm.l8
  have hw1 := hm.w1
  have hne : h ≠ [] := fun e => by
    have := R.hl
    rw [e] at this
    have : 0 = a.length := this
    omega
  have hwh : wd h = wd a := f.wdh hne
  obtain ⟨e0, e01, e02⟩ := hs.at_ hal
  have hw0 : (a.getD 0 []).length = wd a := hm.rect _ (mem_getD hal)
  have hhl := R.hl
  have hrl := f.le
  have hbd := nb_four _ h4
  have wl : ∀ {E : List O} {p1 p2 p3 p4 : Pos} {jj : Nat}, E[0]? = some (.dat d) → EV (mkC g n_law_right s_law_right 33) (.Call (.Name "len" p1) [.Subscript (.Name "a" p2) (.Constant (.int 0) jj p3) p4] [] p1) E [] (.dat (.int (wd a : Int))) [] := fun {E p1 p2 p3 p4 jj} h0 => EV.to (EV.len (EV.ix (EV.nm 0 rfl h0) EV.int e01) (sqV_len e02) W.b.len) (by rw [hw0])
  let F : O → O → O → List O := fun hd l r => [.dat d, .dat (tM h), hd, l, r, .no]
  refine SB.cons (ST.no (ET.to (EW.et (EW.or (k1 := false) (ET.to (ET.not (ET.val (EV.c3 (r := .bl true) (ok_law_sized W) (EV.nm 1) (EV.len (EV.nm 0) hs.len W.b.len) (EV.to (EV.len (EV.ix (EV.nm 0) EV.int e01) (sqV_len e02) W.b.len) (by rw [hw0])) ⟨h, a.length, wd a, rfl, rfl, rfl, hhl, f.wid, rfl⟩))) rfl) (fun _ => EW.or1 (k := false) (ET.to (ET.not (ET.val (EV.c1 (r := .bl true) (ok_law_looks W) (EV.nm 1) ⟨h, sq_t, hne, by omega, by omega, fun q hq => by rw [hwh]; exact f.wid q hq, by rw [f.looks]⟩))) rfl)) (fun _ => rfl))) rfl) SB.nil) ?_
  refine SB.cons (E1 := F (.dat (lN (headsF h))) .no .no) (M1 := []) (ST.set 2 (EV.c1 (ok_law_heads W) (EV.nm 1) ⟨h, sq_t, by omega, fun q hq => by rw [f.wid q hq]; omega, rfl⟩) c_law_right.nd) ?_
  obtain ⟨ds, hds, hp⟩ := hs
  have hs : Sq d a := ⟨ds, hds, hp⟩
  refine SB.cons (E1 := F (.dat (lN (headsF h))) .no .no) (M1 := []) (ST.forN 3 (E_ := fun _ => F (.dat (lN (headsF h))) .no .no) (M_ := fun _ => []) (EI.seq (EV.nm 0) hds) Fg.refl rfl (fun _ _ => True.intro) c_law_right.nd (fun i hi => ?_)) ?_
  · have hi' : i < a.length := by rw [← Paired.length hp]; exact hi
    obtain ⟨y, y1, y2⟩ := paired_at hp (List.getElem?_eq_getElem hi')
    have ea : atO ds i = .dat y := by
      unfold atO
      rw [List.getD_eq_getElem?_getD, y1]
      rfl
    rw [ea]
    have hmem : a[i] ∈ a := List.getElem_mem hi'
    refine ⟨F (.dat (lN (headsF h))) (.dat y) .no, Fg.cons (Fg.cons (Fg.cons (Fg.no Fg.refl))), SB.one (ST.no (ET.to (ET.not (ET.val (EV.c3 (r := .bl true) (ok_law_zeros W) (EV.nm 1) (EV.nm 2) (EV.nm 3) ⟨h, a[i], wd a, r, (nb (wd a)).2.1, pc, f, by omega, by omega, rfl, rfl, y2, hm.rect _ hmem, R.s2 _ hmem, R.bd, fun j => ?_, hbd, rfl⟩))) rfl) SB.nil)⟩
    have := a_small hm i j
    unfold gE at this
    rwa [List.getD_eq_getElem?_getD (l := a), List.getElem?_eq_getElem hi'] at this
  have hlive := f.live
  have hrw := f.r_le
  have hr8 : r ≤ 8 := by omega
  refine SB.cons (E1 := F (.dat (lN (headsF h))) .no (.dat (.int (r : Int)))) (M1 := []) (ST.set 4 (EV.to (EV.len (n := r) (LC.ev (LC.lMF 5 (xs := headsF h) (f := fun (k : Nat) => D.int (k : Int)) (g := fun (k : Nat) => D.int (k : Int)) (t := fun x => decide (x < wd a)) (own := [("x", 5)]) (by rfl) c_law_right.nd rfl (EV.nm 2) rfl (Nat.le_refl _) OkM.refl (by unfold headsF; rw [List.length_map]; omega) (fun x hx M => ?_) (fun x hx _ M => EV.nm 5))) ?_ W.b.len) rfl) c_law_right.nd) ?_
  · refine ET.to (ET.cm (EV.nm 5) (EV.to (EV.len (EV.ix (EV.nm 0) EV.int e01) (sqV_len e02) W.b.len) (by rw [hw0])) CS.ltI) ?_
    simp
  · rw [hlive]
    show some (List.map _ (List.map pc (List.range r))).length = _
    rw [List.length_map, List.length_map, List.length_range]
  have htl := trim_len (w := wd a) f.le
  obtain ⟨t1, t2⟩ := trim_sub f
  have ediv := dv_eq (r := r) (w := wd a) (t1.trans R.s1) (R.s2.trans t2)
  have cut : cutD (h.map tV) none (some (r : Int)) = (h.take r).map tV := by rw [cut_take (by rw [List.length_map]; omega), List.map_take]
  refine SB.one (ST.ret (EV.to (EV.cm (EV.c2 (ok_law_divisor W) (EV.nm 0) (EV.nm 4) ⟨a, wd a, r, 20, hs, hm.ne, hal8, hm.w8, hm.rect, hr8, rfl, by decide, a_small hm, minor_small hm hr8, rfl⟩) (EV.c2 (ok_law_divisor W) (EV.bin (LC.ev (LC.lM 3 (xs := h.take r) (f := tV) (g := lV) (own := [("line", 3)]) (by rfl) c_law_right.nd rfl (EV.slT (EV.nm 1) EO.none (EO.some (EV.nm 4))) (by rw [cut]; rfl) (Nat.le_refl _) OkM.refl (by rw [List.length_take]; omega) (fun q hq M => EV.list (EV.nm 3) rfl W.b.list))) (EV.lst (ds := [lV (List.replicate (wd a) 0)]) (EA.cons (EV.to (EV.bin (EV.lst (ds := [.int 0]) (EA.cons EV.int EA.nil) (by show 1 ≤ 100000; decide)) (EV.to (EV.len (EV.ix (EV.nm 0) EV.int e01) (sqV_len e02) W.b.len) (by rw [hw0])) (BS.mulL (by omega) (by omega) (by show 1 ≤ 100; decide))) ?_) EA.nil) (by show 1 ≤ 100000; decide)) (BS.addL ?_)) (EV.nm 4) ⟨trim h r (wd a), wd a, r, (nb (wd a)).2.1, ?_, ?_, by omega, hm.w8, ?_, hr8, rfl, hbd, ?_, trim_small hm f R.s1 R.s2 hr8, rfl⟩) CS.eqI) ?_))
  · rw [repI, Int.toNat_natCast]
  · rw [List.length_map, List.length_take]
    show _ + 1 ≤ _
    omega
  · have : D.lst (List.map lV (List.take r h) ++ [lV (List.replicate (wd a) 0)]) = lM (trim h r (wd a)) := by
      show _ = D.lst (List.map lV (_ ++ [_]))
      rw [List.map_append]
      rfl
    rw [this]
    exact sq_l
  · unfold trim
    simp
  · intro q hq
    unfold trim at hq
    rcases List.mem_append.mp hq with h1 | h1
    · exact f.wid q (List.mem_of_mem_take h1)
    · rw [List.mem_singleton.mp h1, List.length_replicate]
  · intro i j
    rw [trim_at f.le]
    split
    · exact R.bd i j
    · exact Nat.zero_le _
  · rw [ediv, decide_eq_true rfl]
end
end
section
/-! ### what is drawn -/
section
variable {g : Pg}
abbrev rowC (ns : List Int) : Option (List O) := some ((ns.map D.int).map O.dat)
def tk (ns : List Int) (b : Int) : Int := ns.getLastD 0 % b
theorem tk_pos {ns : List Int} {b : Int} (h : 0 < b) : 0 ≤ tk ns b ∧ tk ns b < b := ⟨Int.emod_nonneg _ (by omega), Int.emod_lt_of_pos _ h⟩
def takeD : Rel := fun os M o M' => ∃ (ns : List Int) (b : Int), 0 < b ∧ os = [.adr 0, .dat (.int b)] ∧ M = [rowC ns] ∧ o = .dat (.int (tk ns b)) ∧ M' = [rowC ns.dropLast]
theorem last_at {ns : List Int} (h : ns ≠ []) : ((ns.map D.int).map O.dat)[((ns.map D.int).map O.dat).length - 1]? = some (.dat (.int (ns.getLastD 0))) := by
  rw [List.length_map, List.length_map, List.getElem?_map, List.getElem?_map]
  have : ns[ns.length - 1]? = some (ns.getLastD 0) := by
    rw [← List.getLast?_eq_getElem?, List.getLast?_eq_some_getLast h, List.getLastD_eq_getLast?, List.getLast?_eq_some_getLast h]
    rfl
  rw [this]
  rfl
theorem ok_law_take (W : Wd g) : FN g "_law_take" 1 takeD := by
  refine FN.mk W.t_law_take c_law_take (fun _ _ _ _ _ _ us hl => match us, hl with | [_, _], _ => rfl) (fun os M o M' h => by obtain ⟨ns, b, _, rfl, _⟩ := h; rfl) (fun os M o M' h => ?_)
  obtain ⟨ns, b, hb, rfl, rfl, rfl, rfl⟩ := h
  have hl : ((ns.map D.int).map O.dat).length = ns.length := by rw [List.length_map, List.length_map]
  refine SB.guard (ET.cm (EV.lenC (EV.nm 0) rfl W.b.len) EV.int CS.eqI) (fun z => ?_) (fun z => ?_)
  · rw [hl] at z
    have e : ns = [] := List.eq_nil_of_length_eq_zero (by have := of_decide_eq_true z; omega)
    subst e
    exact SB.one (ST.ret (EV.to EV.int rfl))
  · rw [hl] at z
    have e : ns ≠ [] := fun e => by
      subst e
      exact absurd z (by decide)
    refine SB.one (ST.to (ST.ret (EV.mod (EV.intI (EV.pop (EV.nm 0) rfl (last_at e)) W.b.int) (EV.nm 1) hb)) ?_)
    show Out.rt _ [some (((ns.map D.int).map O.dat).dropLast)] = _
    rw [← List.map_dropLast, ← List.map_dropLast]
    rfl
theorem ev_tk {C : Cc} {E : List O} {M M1 M2 M' : Mem} {a b : Expr} {p pos : Pos} {n : Nat} {ns : List Int} {j : Int} (F : FN C.g "_law_take" 1 takeD) (ha : EV C a E M (.adr n) M1) (hb : EV C b E M1 (.dat (.int j)) M2) (hc : M2[n]? = some (rowC ns)) (hj : 0 < j) (hk : Nat.ble 1 C.k = true := by rfl)
    (hg : C.sc.names.lookup ("_law_take" : Str) = some .globalImplicit := by rfl) (he : ∀ env, starEach [a, b] env = (false, eval a env) :: starEach [b] env := by intro _; rfl) (he2 : ∀ env, starEach [b] env = (false, eval b env) :: starEach [] env := by intro _; rfl) (hpl : ∀ env, (backTo pos (starEach [b] env)).any (·.1) = false := by intro _; rfl) (hM : M' = M2.set n (rowC ns.dropLast) := by rfl) :
    EV C (.Call (.Name "_law_take" p) [a, b] [] pos) E M (.dat (.int (tk ns j))) M' := by
  subst hM
  exact EV.call1 (ds := [.int j]) (cs := ns.map D.int) (cs' := ns.dropLast.map D.int) F (EA.cons ha (EA.cons hb EA.nil he2) he) hc ⟨ns, j, hj, rfl, rfl, rfl, rfl⟩ hk hg (by decide) he hpl
/-! ### alike -/
def Fit : Nat → D → Prop
  | _, .non => True
  | _, .bl _ => True
  | _, .int _ => True
  | _, .str _ => True
  | n + 1, .tup ds => ds.length < 100000 ∧ ∀ x ∈ ds, Fit n x
  | n + 1, .lst ds => ds.length < 100000 ∧ ∀ x ∈ ds, Fit n x
  | _, _ => False
theorem like_flat {kk : Nat} (W : Wd g) {e : D} (hf : Fit 0 e) : SB (mkC g n_law_like s_law_like kk) (defBody s_law_like) (pad n_law_like [.dat e, .dat e]) [] (.rt (.dat (.bl true)) []) := by
  cases e with
  | bl k => exact SB.stop (ST.yes (ET.to (ET.val (EV.isBool (EV.nm 1) W.b.isinstance W.b.bool)) rfl) (SB.one (ST.ret (EV.to (EV.and (EV.isBool (EV.nm 0) W.b.isinstance W.b.bool) (fun _ => EV.and1 (EV.cm (EV.nm 0) (EV.nm 1) CS.eqB)) (fun _ => rfl)) (by cases k <;> rfl)))))
  | int i =>
    exact SB.cons (ST.no (ET.to (ET.val (EV.isBool (EV.nm 1) W.b.isinstance W.b.bool)) rfl) SB.nil) (SB.stop (ST.yes (ET.to (ET.val (EV.isInt (EV.nm 1) W.b.isinstance W.b.int)) rfl) (SB.one (ST.ret (EV.to (EV.and (EV.isInt (EV.nm 0) W.b.isinstance W.b.int) (fun _ => EV.and (EV.not (EV.isBool (EV.nm 0) W.b.isinstance W.b.bool)) (fun _ => EV.and1 (EV.cm (EV.nm 0) (EV.nm 1) CS.eqI)) (fun _ => rfl)) (fun _ => rfl)) (by simp [D.isInt, D.isBl]))))))
  | str x =>
    exact SB.cons (ST.no (ET.to (ET.val (EV.isBool (EV.nm 1) W.b.isinstance W.b.bool)) rfl) SB.nil) (SB.cons (ST.no (ET.to (ET.val (EV.isInt (EV.nm 1) W.b.isinstance W.b.int)) rfl) SB.nil) (SB.stop (ST.yes (ET.to (ET.val (EV.isStr (EV.nm 1) W.b.isinstance W.b.str)) rfl) (SB.one (ST.ret (EV.to (EV.and (EV.isStr (EV.nm 0) W.b.isinstance W.b.str) (fun _ => EV.and1 (EV.cm (EV.nm 0) (EV.nm 1) CS.eqS)) (fun _ => rfl)) (by simp [D.isStr])))))))
  | non =>
    exact SB.cons (ST.no (ET.to (ET.val (EV.isBool (EV.nm 1) W.b.isinstance W.b.bool)) rfl) SB.nil) (SB.cons (ST.no (ET.to (ET.val (EV.isInt (EV.nm 1) W.b.isinstance W.b.int)) rfl) SB.nil) (SB.cons (ST.no (ET.to (ET.val (EV.isStr (EV.nm 1) W.b.isinstance W.b.str)) rfl) SB.nil) (SB.stop (ST.yes (ET.to (ET.isN (EV.nm 1)) rfl) (SB.one (ST.ret (EV.to (EV.isN (EV.nm 0)) rfl)))))))
  | tup ds => exact hf.elim
  | lst ds => exact hf.elim
  | dct ks ds => exact hf.elim
theorem ok_law_like (W : Wd g) : ∀ n : Nat, FN g "_law_like" (n + 1) (P2 fun d e r => e = d ∧ Fit n d ∧ r = .bl true) := fun n => by
  induction n with
  | zero =>
    refine FN.mk2 W.t_law_like c_law_like (fun _ _ _ _ _ _ us hl => match us, hl with | [_, _], _ => rfl) (fun d e r h => ?_)
    obtain ⟨rfl, hf, rfl⟩ := h
    exact like_flat W hf
  | succ n ih =>
    refine FN.mk2 W.t_law_like c_law_like (fun _ _ _ _ _ _ us hl => match us, hl with | [_, _], _ => rfl) (fun d e r h => ?_)
    obtain ⟨rfl, hf, rfl⟩ := h
    have loop : ∀ {ds : List D}, seqD e = some ds → ds.length < 100000 → (∀ x ∈ ds, Fit n x) → SB (mkC g n_law_like s_law_like (n + 1)) ((defBody s_law_like).drop 6) (pad n_law_like [.dat e, .dat e]) [] (.rt (.dat (.bl true)) []) := fun {ds} hs hl hx => by
      have hlen := (seq_of hs).2
      refine SB.cons (ST.no (ET.to (ET.cm (EV.len (EV.nm 0) hlen W.b.len) (EV.len (EV.nm 1) hlen W.b.len) CS.neI) (by simp)) SB.nil) (SB.cons (ST.forN 2 (E_ := fun _ => [.dat e, .dat e, .no]) (M_ := fun _ => []) (EI.rng1 (EV.len (EV.nm 1) hlen W.b.len) W.b.range (by omega)) Fg.refl rfl (fun _ _ => True.intro) c_law_like.nd (fun i hi => ?_)) (SB.one (ST.ret EV.bl)))
      have hi' : i < ds.length := by omega
      have hix : ixD e ((i : Nat) : Int) = some ds[i] := by
        cases e <;> first | (cases hs; exact atI_nat (List.getElem?_eq_getElem hi')) | cases hs
      refine ⟨[.dat e, .dat e, .dat (.int (i : Int))], Fg.cons (Fg.cons (Fg.no Fg.nil)), ?_⟩
      have hset : ([.dat e, .dat e, .no] : List O).set 2 (atI0 0 i) = [.dat e, .dat e, .dat (.int (i : Int))] := by
        show [O.dat e, O.dat e, O.dat (.int (0 + (i : Int)))] = _
        rw [Int.zero_add]
      rw [hset]
      exact SB.one (ST.no (ET.to (ET.not (ET.val (EV.c2 ih (EV.ix (EV.nm 0) (EV.nm 2) hix) (EV.ix (EV.nm 1) (EV.nm 2) hix) ⟨rfl, hx _ (List.getElem_mem hi'), rfl⟩ (Nat.ble_eq_true_of_le (Nat.le_refl _))))) rfl) SB.nil)
    cases e with
    | tup ds =>
      exact SB.cons (ST.no (ET.to (ET.val (EV.isBool (EV.nm 1) W.b.isinstance W.b.bool)) rfl) SB.nil) (SB.cons (ST.no (ET.to (ET.val (EV.isInt (EV.nm 1) W.b.isinstance W.b.int)) rfl) SB.nil) (SB.cons (ST.no (ET.to (ET.val (EV.isStr (EV.nm 1) W.b.isinstance W.b.str)) rfl) SB.nil) (SB.cons (ST.no (ET.to (ET.isN (EV.nm 1)) rfl) SB.nil)
        (SB.cons (ST.no (ET.to (EW.et (EW.and (ET.val (EV.isTuple (EV.nm 1) W.b.isinstance W.b.tuple)) (fun _ => EW.and1 (ET.not (ET.val (EV.isTuple (EV.nm 0) W.b.isinstance W.b.tuple)))) (fun _ => rfl))) rfl) SB.nil)
        (SB.cons (ST.no (ET.to (EW.et (EW.and (k1 := false) (k2 := true) (ET.to (ET.val (EV.isList (EV.nm 1) W.b.isinstance W.b.list)) rfl) (fun z => nomatch z) (fun _ => rfl))) rfl) SB.nil) (loop rfl hf.1 hf.2))))))
    | lst ds =>
      exact SB.cons (ST.no (ET.to (ET.val (EV.isBool (EV.nm 1) W.b.isinstance W.b.bool)) rfl) SB.nil) (SB.cons (ST.no (ET.to (ET.val (EV.isInt (EV.nm 1) W.b.isinstance W.b.int)) rfl) SB.nil) (SB.cons (ST.no (ET.to (ET.val (EV.isStr (EV.nm 1) W.b.isinstance W.b.str)) rfl) SB.nil) (SB.cons (ST.no (ET.to (ET.isN (EV.nm 1)) rfl) SB.nil)
        (SB.cons (ST.no (ET.to (EW.et (EW.and (k1 := false) (k2 := true) (ET.to (ET.val (EV.isTuple (EV.nm 1) W.b.isinstance W.b.tuple)) rfl) (fun z => nomatch z) (fun _ => rfl))) rfl) SB.nil)
        (SB.cons (ST.no (ET.to (EW.et (EW.and (ET.val (EV.isList (EV.nm 1) W.b.isinstance W.b.list)) (fun _ => EW.and1 (ET.not (ET.val (EV.isList (EV.nm 0) W.b.isinstance W.b.list)))) (fun _ => rfl))) rfl) SB.nil) (loop rfl hf.1 hf.2))))))
    | bl k => exact like_flat W True.intro
    | int i => exact like_flat W True.intro
    | str x => exact like_flat W True.intro
    | non => exact like_flat W True.intro
    | dct ks ds => exact hf.elim
end
/-! ### what a def does, told by its run -/
section
variable {g : Pg}
def Run (g : Pg) (N : List Str) (st : Stmt) (k : Nat) (os : List O) (M : Mem) (o : O) (M' : Mem) : Prop := M.length ≤ M'.length ∧ LowO M'.length o ∧ LowM M'.length M' ∧ ∃ J, SB (mkC g N st k) (defBody st) (pad N os) M (.rt o (M' ++ J))
theorem FN.run {x : Str} {st : Stmt} {N ps : List Str} {k : Nat} (T : TxtF g x st) (S : FnScope N ps (defScope st))
    (hb : ∀ (kV doc pm : Value) (an : Option Addr) (cdv ct : Value) (us : List Value), us.length = ps.length → bindArgs (PySem.W.fnOf x x (defArgs st) (defBody st) (defScope st) .none kV doc pm an cdv ct) ⟨us, []⟩ = pure (ps.zip us)) :
    FN g x (k + 1) (fun os M o M' => os.length = ps.length ∧ Run g N st k os M o M') :=
  FN.mkJ T S hb (fun os M o M' h => h.1) (fun os M o M' h => ⟨h.2.1, h.2.2.1, h.2.2.2.1, h.2.2.2.2⟩)
end
section
variable {g : Pg}
section
variable {C : Cc} {E : List O} {M M1 : Mem} {elt iter : Expr} {p : Pos} {x : Str} {scope : Scope} {own : List (Str × Nat)} {d : D}
theorem LC.lX {α : Type} (jx : Nat) {xs : List α} {f : α → D} (A : Nat → Mem) (acc : Nat → List O) (ok : blkC C.N C.sc scope own = true) (nd : C.N.Nodup) (ho : own.map (·.2) = [jx]) (h : EV C iter E M (.dat d) M1) (hd : seqD d = some (xs.map f)) (hA : A 0 = M1 ++ [some []]) (ha : acc 0 = [])
    (step : ∀ (i : Nat) (hi : i < xs.length), ∃ o Mc, EV (C.blk scope) elt ((wipeE E [jx]).set jx (.dat (f xs[i]))) (A i) o Mc ∧ Mc[M1.length]? = some (some (acc i)) ∧ (acc i).length < 100000 ∧ A (i + 1) = Mc.set M1.length (some (acc i ++ [o])) ∧ acc (i + 1) = acc i ++ [o])
    (hi : C.N[jx]? = some x := by rfl) (hx : Loc (C.blk scope).sc x := by first | exact Or.inl rfl | exact Or.inr rfl) (hf' : (C.blk scope).fn x = true ∨ (C.blk scope).sc.names.lookup x = some .local := by first | exact .inl rfl | exact .inr rfl)
    (hf : ∀ env x, foldedSetIterable iter env x = pure x := by intro _ _; rfl) : LC C elt (.Name x p) iter [] scope own E M (.adr M1.length) (A xs.length) := by
  have hlen : (xs.map f).length = xs.length := List.length_map _
  have key := LC.gen (C := C) (tg := .Name x p) (elt := elt) (iter := iter) (ifs := []) (scope := scope) (own := own) (A := A) (acc := acc) ok nd (EI.seq h hd) hA ha (fun _ _ => True.intro) (fun i hi' => by
    rw [hlen] at hi'
    obtain ⟨o, Mc, h1, h2, h3, h4, h5⟩ := step i hi'
    refine ⟨_, _, true, _, EGv.nm jx nd (by rw [ho]; simp) hi hx hf', EP.nil, .inl ⟨rfl, o, Mc, ?_, h2, h3, h4, h5⟩⟩
    rw [ho, atO_map hi']
    exact h1) hf
  rw [hlen] at key
  exact key
end
theorem rowC_app {v : List Int} {x : Int} : rowC (v ++ [x]) = some ((v.map D.int).map O.dat ++ [O.dat (D.int x)]) := by
  show some _ = some _
  rw [List.map_append, List.map_append]
  rfl
end
/-! ### rows of numbers -/
section
variable {g : Pg}
def dl : Nat → List Int → List Int
  | 0, ns => ns
  | i + 1, ns => (dl i ns).dropLast
def pick (L : List Int) (i : Int) : Int := L.getD i.toNat 0
theorem pick_at {L : List Int} {i : Int} (h : 0 ≤ i ∧ i < L.length) : atI (L.map D.int) i = some (.int (pick L i)) := by
  obtain ⟨n, rfl⟩ : ∃ n : Nat, i = (n : Int) := ⟨i.toNat, by omega⟩
  refine atI_nat ?_
  rw [List.getElem?_map]
  have hn : n < L.length := by omega
  show _ = some (D.int (L.getD n 0))
  rw [getD_of_lt hn]
  rfl
theorem pick_mem {L : List Int} {i : Int} (h : 0 ≤ i ∧ i < L.length) : pick L i ∈ L := mem_getD (by omega)
theorem ixN_of {n k : Nat} (h : k < n) : ixN n (k : Int) = some k := by
  unfold ixN
  rw [if_pos (by omega), if_pos (by omega)]
  simp
theorem lowR {n : Nat} {ns : List Int} : LowM n [rowC ns] := LowM.dat LowM.nil
theorem EV.call1' {C : Cc} {E : List O} {M M1 M' : Mem} {e : Expr} {es : List Expr} {p pos : Pos} {x : Str} {d : D} {R : Rel} {kf n : Nat} {ds cs cs' : List D} (F : FN C.g x kf R) (ha : EA C (e :: es) E M (.adr n :: ds.map .dat) M1) (hc : M1[n]? = some (some (cs.map .dat))) (hR : R (.adr 0 :: ds.map .dat) [some (cs.map .dat)] (.dat d) [some (cs'.map .dat)]) (hk : Nat.ble kf C.k = true := by rfl)
    (hg : C.sc.names.lookup x = some .globalImplicit := by rfl) (hdb : (x == ("__debug__" : Str)) = false := by decide) (he : ∀ env, starEach (e :: es) env = (false, eval e env) :: starEach es env := by intro _; rfl) (hpl : ∀ env, (backTo pos (starEach es env)).any (·.1) = false := by intro _; rfl) (hM : M' = M1.set n (some (cs'.map .dat)) := by rfl) :
    EV C (.Call (.Name x p) (e :: es) [] pos) E M (.dat d) M' := by
  subst hM
  exact EV.call1 F ha hc hR hk hg hdb he hpl
theorem row_set {v : List Int} {j : Nat} {x : Int} : (some (((v.map D.int).map O.dat).set j (.dat (.int x))) : Option (List O)) = rowC (v.set j x) := by
  show _ = some _
  rw [List.map_set, List.map_set]
theorem adr_len {n b : Nat} : ((List.range n).map fun i => O.adr (b + i)).length = n := by rw [List.length_map, List.length_range]
theorem row_len {v : List Int} : ((v.map D.int).map O.dat).length = v.length := by rw [List.length_map, List.length_map]
theorem adr_at {n b i : Nat} (h : i < n) : atI ((List.range n).map fun k => O.adr (b + k)) ((i : Nat) : Int) = some (.adr (b + i)) := by
  refine atI_nat ?_
  rw [List.getElem?_map, List.getElem?_range h]
  rfl
theorem row_at {v : List Int} {j : Nat} (h : j < v.length) : atI ((v.map D.int).map O.dat) ((j : Nat) : Int) = some (.dat (.int (v.getD j 0))) := by
  refine atI_nat ?_
  rw [List.getElem?_map, List.getElem?_map, getD_of_lt h]
  rfl
end
section
variable {g : Pg}
theorem isV_ix {e : D} {r : List Int} {j : Nat} (h : seqD e = some (r.map D.int)) (hj : j < r.length) : ixD e ((j : Nat) : Int) = some (.int (r.getD j 0)) := by
  have : (r.map D.int)[j]? = some (.int (r.getD j 0)) := by
    rw [List.getElem?_map, getD_of_lt hj]
    rfl
  cases e <;> first | (cases h; exact atI_nat this) | cases h
theorem mixDraws {res : List Int} : Mix [] [] [] [none, rowC res] [none, rowC res] := by
  refine ⟨rfl, List.nodup_nil, rfl, fun i k h => by simp at h, fun k os h => ?_⟩
  match k, h with
  | 1, h =>
    have e : ((res.map D.int).map O.dat) = os := Option.some.inj (Option.some.inj h)
    subst e
    exact .inr ⟨1, _, rfl, .inr (Nat.zero_le _), rfl, (ren_dat _).symm⟩
  | k + 2, h => simp at h
end
/-! ### draws -/
section
variable {g : Pg}
theorem chain {S : Type} {P : Nat → S → S → Prop} {I : Nat → S → Prop} {n : Nat} (h : ∀ i, i < n → ∀ s, I i s → ∃ s', P i s s' ∧ I (i + 1) s') (s0 : S) (h0 : I 0 s0) : ∃ f : Nat → S, f 0 = s0 ∧ (∀ i, i ≤ n → I i (f i)) ∧ ∀ i, i < n → P i (f i) (f (i + 1)) := by
  induction n with
  | zero => exact ⟨fun _ => s0, rfl, fun i hi => by rw [Nat.le_zero.mp hi]; exact h0, fun i hi => absurd hi (Nat.not_lt_zero i)⟩
  | succ n ih =>
    obtain ⟨f, f0, f1, f2⟩ := ih fun i hi => h i (by omega)
    obtain ⟨s', p1, p2⟩ := h n (Nat.lt_succ_self n) (f n) (f1 n (Nat.le_refl n))
    refine ⟨fun i => if i ≤ n then f i else s', by show (if 0 ≤ n then f 0 else s') = s0; rw [if_pos (Nat.zero_le _)]; exact f0, fun i hi => ?_, fun i hi => ?_⟩
    · by_cases hin : i ≤ n
      · simp only [if_pos hin]
        exact f1 i hin
      · have : i = n + 1 := by omega
        subst this
        simp only [if_neg hin]
        exact p2
    · by_cases hin : i < n
      · simp only [if_pos (show i ≤ n by omega), if_pos (show i + 1 ≤ n by omega)]
        exact f2 i hin
      · have : i = n := by omega
        subst this
        simp only [if_pos (Nat.le_refl i), if_neg (show ¬ i + 1 ≤ i by omega)]
        exact p1
def dig (t : List Int) (n : Int) : Nat → List Int × Int
  | 0 => (t, n)
  | k + 1 => ((dig t n k).1 ++ [(dig t n k).2 % 1000], (dig t n k).2 / 1000)
theorem dig_len {t : List Int} {n : Int} : ∀ k, (dig t n k).1.length = t.length + k
  | 0 => rfl
  | k + 1 => by
    show ((dig t n k).1 ++ [_]).length = _
    rw [List.length_append, dig_len k, List.length_singleton]
    omega
theorem cutD_map {α β : Type} {f : α → β} {xs : List α} {lo hi : Option Int} : cutD (xs.map f) lo hi = (cutD xs lo hi).map f := by
  unfold cutD
  rw [List.length_map, List.map_take, List.map_drop]
theorem cut63 {α : Type} {xs : List α} (h : xs.length ≤ 63) : cutD xs none (some 63) = xs := by
  refine cutD_all rfl ?_
  show HT.sIx xs.length xs.length (some ((63 : Nat) : Int)) = _
  rw [HT.sIx_nat]
  omega
abbrev db : List Stmt := defBody s_law_draws
theorem draws_run (W : Wd g) {o0 : O} {ns : List Int} (hs : Scr g.K o0 (ns.map V.int)) (hn : o0 ≠ .no) (hl : ns.length ≤ 63) : ∃ res : List Int, SB (mkC g n_law_draws s_law_draws 0) db (pad n_law_draws [o0, .dat (.int 320)]) [] (.rt (.adr 1) [none, rowC res]) := by
  have hcut : cutD (ns.map D.int) none (some 63) = ns.map D.int := cut63 (by rw [List.length_map]; exact hl)
  have hnl : (ns.map D.int).length = ns.length := List.length_map _
  have slice : ∀ {E : List O} {M : Mem} {p p1 p2 q : Pos} {j : Nat}, E[0]? = some o0 → EV (mkC g n_law_draws s_law_draws 0) (.Subscript (.Name "script" p1) (.Slice none (some (.Constant (.int 63) j q)) none p2) p) E M (.dat (.lst (ns.map D.int))) M := fun {E M p p1 p2 q j} he => by
    have := EV.slS (C := mkC g n_law_draws s_law_draws 0) (pos := p) (p := p2) (EV.nm (M := M) (x := "script") (pos := p1) 0 rfl he hn) EO.none (EO.some (EV.int (pos := q) (j := j) (i := 63))) hs
    rw [hcut] at this
    exact this
  -- the first loop
  let E1 : List O := [o0, .dat (.int 320), .adr 0, .no, .no, .no, .no]
  obtain ⟨f, f0, fI, fP⟩ := chain (S := List Int) (n := ns.length) (I := fun i t => t.length ≤ 60 * i)
    (P := fun i t t' => ∃ E2, Fg E2 E1 ∧ SB (mkC g n_law_draws s_law_draws 0) (bodyOf (db.getD 1 (.Pass ⟨0, 0, 0, 0⟩))) (E1.set 3 (.dat (.int (ns.getD i 0)))) [rowC t] (.nx E2 [rowC t'])) (fun i hi t ht => by
      generalize ns.getD i 0 = z
      by_cases hz : 10 ^ 18 ≤ z
      · -- digits
        have hbr : ∃ m, m ≤ 60 ∧ (∀ k, k < m → ¬ ((dig t z k).2 = 0 ∨ 320 ≤ (dig t z k).1.length)) ∧ (m < 60 → ((dig t z m).2 = 0 ∨ 320 ≤ (dig t z m).1.length)) := by
          by_cases hex : ∃ m, m < 60 ∧ ((dig t z m).2 = 0 ∨ 320 ≤ (dig t z m).1.length)
          · obtain ⟨m, h1, h2⟩ := hex
            obtain ⟨k, k1, k2, k3⟩ := least (P := fun m => (dig t z m).2 = 0 ∨ 320 ≤ (dig t z m).1.length) m h2
            exact ⟨k, by omega, k3, fun _ => k2⟩
          · exact ⟨60, Nat.le_refl _, fun k hk h => hex ⟨k, hk, h⟩, fun h => absurd h (by omega)⟩
        obtain ⟨m, m1, m2, m3⟩ := hbr
        have hd := fun k => dig_len (t := t) (n := z) k
        have test : ∀ {k : Nat} {E : List O} {b : Bool}, E = [o0, .dat (.int 320), .adr 0, .dat (.int z), .dat (.int (dig t z k).2), .dat (.int (0 + (k : Int))), .no] → b = decide ((dig t z k).2 = 0 ∨ 320 ≤ (dig t z k).1.length) → ET (mkC g n_law_draws s_law_draws 0) (ifOf ((bodyOf ((thenOf ((bodyOf (db.getD 1 (.Pass ⟨0, 0, 0, 0⟩))).getD 1 (.Pass ⟨0, 0, 0, 0⟩))).getD 0 (.Pass ⟨0, 0, 0, 0⟩))).getD 0 (.Pass ⟨0, 0, 0, 0⟩))) E [rowC (dig t z k).1] b [rowC (dig t z k).1] := fun {k E b} he hb => by
          subst he
          refine ET.to (EW.et (EW.or (ET.cm (EV.nm 4) EV.int CS.eqI) (fun _ => EW.or1 (ET.cm (EV.lenC (nn := 0) (EV.nm 2) rfl W.b.len) (EV.nm 1) CS.geI)) (fun _ => rfl))) ?_
          rw [hb, row_len, Bool.eq_iff_iff]
          simp
          omega
        refine ⟨(dig t z m).1, ⟨[o0, .dat (.int 320), .adr 0, .dat (.int z), .no, .no, .no], ?_, SB.cons (ST.set 4 (EV.intI (EV.nm 3) W.b.int) c_law_draws.nd) (SB.one (ST.yes (ET.to (ET.cm (EV.nm 4) (EV.pow EV.int EV.int ⟨by decide, by decide, by decide⟩) CS.geI) (decide_eq_true hz)) (SB.one ?_)))⟩, ?_⟩
        · exact Fg.cons (Fg.cons (Fg.cons (Fg.no (Fg.refl))))
        · have base : ∀ {r : Out}, (m = 60 ∧ r = .nx [o0, .dat (.int 320), .adr 0, .dat (.int z), .dat (.int (dig t z 60).2), .no, .no] [rowC (dig t z 60).1] ∨ m < 60 ∧ r = .nx [o0, .dat (.int 320), .adr 0, .dat (.int z), .dat (.int (dig t z m).2), .dat (.int (0 + (m : Int))), .no] [rowC (dig t z m).1]) → ST (mkC g n_law_draws s_law_draws 0) ((thenOf ((bodyOf (db.getD 1 (.Pass ⟨0, 0, 0, 0⟩))).getD 1 (.Pass ⟨0, 0, 0, 0⟩))).getD 0 (.Pass ⟨0, 0, 0, 0⟩)) [o0, .dat (.int 320), .adr 0, .dat (.int z), .dat (.int z), .no, .no] [rowC t] r := fun {r} hr => by
            refine ST.for (m := m) (n := 60) (E_ := fun k => [o0, .dat (.int 320), .adr 0, .dat (.int z), .dat (.int (dig t z k).2), .no, .no]) (M_ := fun k => [rowC (dig t z k).1]) (EI.rng1 EV.int W.b.range (by decide)) Fg.refl rfl m1 (fun _ _ => True.intro) (fun k hk => ?_) ?_
            · refine ⟨_, _, [o0, .dat (.int 320), .adr 0, .dat (.int z), .dat (.int (dig t z (k + 1)).2), .dat (.int (0 + (k : Int))), .no], EG.nm 5 c_law_draws.nd, ?_, .inl ?_⟩
              · exact Fg.cons (Fg.cons (Fg.cons (Fg.cons (Fg.cons (Fg.no Fg.refl)))))
              · refine SB.cons (ST.no (test (b := false) rfl (decide_eq_false (m2 k hk)).symm) SB.nil) (SB.cons (E1 := [o0, .dat (.int 320), .adr 0, .dat (.int z), .dat (.int (dig t z k).2), .dat (.int (0 + (k : Int))), .no]) (M1 := [rowC ((dig t z k).1 ++ [(dig t z k).2 % 1000])]) (ST.to (ST.exp (EV.append (n := 0) (ps := ((dig t z k).1.map D.int).map O.dat) (EV.nm 2) (EV.mod (EV.intI (EV.nm 4) W.b.int) EV.int (by decide)) rfl rfl (by rw [row_len, hd]; omega))) ?_) (SB.one (ST.set 4 (EV.to (EV.div (EV.nm 4) EV.int ⟨by decide, by decide⟩) rfl) c_law_draws.nd)))
                show Out.nx _ [some _] = Out.nx _ [rowC ((dig t z k).1 ++ [(dig t z k).2 % 1000])]
                rw [rowC_app]
                rfl
            · rcases hr with ⟨rfl, rfl⟩ | ⟨h60, rfl⟩
              · exact .inl ⟨rfl, rfl⟩
              · exact .inr ⟨h60, _, _, EG.nm 5 c_law_draws.nd, .inr ⟨_, _, SB.stop (ST.yes (test (b := true) rfl (decide_eq_true (m3 h60)).symm) (SB.one ST.brk)), rfl⟩⟩
          by_cases h60 : m < 60
          · refine ST.forget (base (.inr ⟨h60, rfl⟩)) ?_
            exact Fg.cons (Fg.cons (Fg.cons (Fg.cons (Fg.no (Fg.no Fg.refl)))))
          · have e : m = 60 := by omega
            subst e
            refine ST.forget (base (.inl ⟨rfl, rfl⟩)) ?_
            exact Fg.cons (Fg.cons (Fg.cons (Fg.cons (Fg.no Fg.refl))))
        · rw [hd]; omega
      · refine ⟨t, ⟨_, ?_, SB.cons (ST.set 4 (EV.intI (EV.nm 3) W.b.int) c_law_draws.nd) (SB.one (ST.no (ET.to (ET.cm (EV.nm 4) (EV.pow EV.int EV.int ⟨by decide, by decide, by decide⟩) CS.geI) (decide_eq_false hz)) SB.nil))⟩, by omega⟩
        exact Fg.cons (Fg.cons (Fg.cons (Fg.no (Fg.no Fg.refl))))) [] (by simp)
  -- the second one
  let E2 : Int → List O := fun s => [o0, .dat (.int 320), .adr 0, .no, .no, .no, .dat (.int s)]
  obtain ⟨u, u0, uI, uP⟩ := chain (S := Int) (n := ns.length) (I := fun i s => 0 ≤ s ∧ s < 2147483647)
    (P := fun i s s' => ∃ E', Fg E' (E2 s') ∧ SB (mkC g n_law_draws s_law_draws 0) (bodyOf (db.getD 3 (.Pass ⟨0, 0, 0, 0⟩))) ((E2 s).set 5 (.dat (.int (0 + (i : Int))))) [rowC (f ns.length)] (.nx E' [rowC (f ns.length)])) (fun i hi s hs' => by
      refine ⟨(s * s + ns.getD i 0 % 999999937 + (i : Int) + 1) % 2147483647, ⟨_, ?_, SB.one (ST.set 6 (EV.mod (EV.add (EV.add (EV.add (EV.mul (EV.nm 6) (EV.nm 6) (mul_okL (by omega))) (EV.mod (EV.intI (EV.ixS (EV.nm 0 rfl rfl hn) (EV.nm 5) hs (by rw [Int.zero_add]; exact isV_ix (e := .lst (ns.map D.int)) rfl hi)) W.b.int) EV.int (by decide))) (EV.nm 5)) EV.int) EV.int (by decide)) c_law_draws.nd)⟩, Int.emod_nonneg _ (by decide), Int.emod_lt_of_pos _ (by decide)⟩
      rw [Int.zero_add]
      exact Fg.cons (Fg.cons (Fg.cons (Fg.cons (Fg.cons (Fg.no Fg.refl)))))) 40503 (by decide)
  -- the third one
  let E3 : Int × List Int → List O := fun s => [o0, .dat (.int 320), .adr 0, .no, .no, .no, .dat (.int s.1)]
  obtain ⟨v, v0, vI, vP⟩ := chain (S := Int × List Int) (n := 323) (I := fun i s => (0 ≤ s.1 ∧ s.1 < 2147483647) ∧ s.2.length ≤ 3780 + i)
    (P := fun i s s' => ∃ E', Fg E' (E3 s') ∧ SB (mkC g n_law_draws s_law_draws 0) (bodyOf (db.getD 4 (.Pass ⟨0, 0, 0, 0⟩))) ((E3 s).set 5 (.dat (.int (0 + (i : Int))))) [rowC s.2] (.nx E' [rowC s'.2])) (fun i hi s hs' => by
      obtain ⟨s, t⟩ := s
      obtain ⟨hs1, hs2⟩ := hs'
      simp only at hs1 hs2
      have hp : 0 ≤ (s * s + 5 * (0 + (i : Int)) + 3) % 2147483647 ∧ (s * s + 5 * (0 + (i : Int)) + 3) % 2147483647 < 2147483647 := ⟨Int.emod_nonneg _ (by decide), Int.emod_lt_of_pos _ (by decide)⟩
      have st : ∀ {r : Out} {rest : List Stmt}, SB (mkC g n_law_draws s_law_draws 0) ((bodyOf (db.getD 4 (.Pass ⟨0, 0, 0, 0⟩))).drop 1) [o0, .dat (.int 320), .adr 0, .no, .no, .dat (.int (0 + (i : Int))), .dat (.int ((s * s + 5 * (0 + (i : Int)) + 3) % 2147483647))] [rowC t] r → SB (mkC g n_law_draws s_law_draws 0) (bodyOf (db.getD 4 (.Pass ⟨0, 0, 0, 0⟩))) ((E3 (s, t)).set 5 (.dat (.int (0 + (i : Int))))) [rowC t] r := fun {r rest} h =>
        SB.cons (ST.set 6 (EV.mod (EV.add (EV.add (EV.mul (EV.nm 6) (EV.nm 6) (mul_okL (by omega))) (EV.mulL EV.int (EV.nm 5) (by decide))) EV.int) EV.int (by decide)) c_law_draws.nd) h
      by_cases h2 : (2 : Int) < 0 + (i : Int)
      · refine ⟨((s * s + 5 * (0 + (i : Int)) + 3) % 2147483647, t ++ [(s * s + 5 * (0 + (i : Int)) + 3) % 2147483647 / 64 % 1000]), ⟨[o0, .dat (.int 320), .adr 0, .no, .no, .dat (.int (0 + (i : Int))), .dat (.int ((s * s + 5 * (0 + (i : Int)) + 3) % 2147483647))], ?_, st (rest := []) (SB.one (ST.yes (ET.to (ET.cm (EV.nm 5) EV.int CS.gtI) (decide_eq_true h2)) (SB.one (ST.to (ST.exp (EV.append (n := 0) (ps := (t.map D.int).map O.dat) (EV.nm 2) (EV.mod (EV.div (EV.nm 6) EV.int ⟨by decide, by decide⟩) EV.int (by decide)) rfl rfl (by rw [row_len]; omega))) ?_))))⟩, hp, ?_⟩
        · exact Fg.cons (Fg.cons (Fg.cons (Fg.cons (Fg.cons (Fg.no Fg.refl)))))
        · show Out.nx _ [some _] = Out.nx _ [rowC (t ++ [_])]
          rw [rowC_app]
        · show (t ++ [_]).length ≤ _
          rw [List.length_append, List.length_singleton]
          omega
      · refine ⟨((s * s + 5 * (0 + (i : Int)) + 3) % 2147483647, t), ⟨_, ?_, st (rest := []) (SB.one (ST.no (ET.to (ET.cm (EV.nm 5) EV.int CS.gtI) (decide_eq_false h2)) SB.nil))⟩, hp, ?_⟩
        · exact Fg.cons (Fg.cons (Fg.cons (Fg.cons (Fg.cons (Fg.no Fg.refl)))))
        · show t.length ≤ _
          omega) (u ns.length, f ns.length) ⟨uI _ (Nat.le_refl _), by
      have := fI ns.length (Nat.le_refl _)
      show (f ns.length).length ≤ 3780 + 0
      omega⟩
  refine ⟨(cutD (v 323).2 none (some 320)).reverse, SB.cons (ST.set 2 (EV.cel EA.nil (by decide)) c_law_draws.nd) (SB.cons (ST.forN 3 (E_ := fun _ => E1) (M_ := fun i => [rowC (f i)]) (EI.lst (slice rfl)) ?_ (by rw [f0]; rfl) (fun _ _ => True.intro) c_law_draws.nd (fun i hi => ?_)) (SB.cons (ST.set 6 EV.int c_law_draws.nd) (SB.cons (ST.forN 5 (n := ((ns.length : Nat) : Int).toNat) (E_ := fun i => E2 (u i)) (M_ := fun i => [rowC (f ns.length)]) (EI.rng1 (EV.len (slice rfl) (by show some (ns.map D.int).length = some ns.length; rw [hnl]) W.b.len) W.b.range (by omega)) ?_ (by rw [hnl]) (fun _ _ => True.intro) c_law_draws.nd (fun i hi => ?_)) (SB.cons (ST.forN 5 (n := ((320 : Int) + 3).toNat) (E_ := fun i => E3 (v i)) (M_ := fun i => [rowC (v i).2]) (EI.rng1 (EV.add (EV.nm 1) EV.int) W.b.range (by decide)) ?_ (by rw [v0]) (fun _ _ => True.intro) c_law_draws.nd (fun i hi => ?_)) (SB.fz (jj := 2) (nn := 0) (ds := (v 323).2.map D.int) rfl rfl (SB.to (SB.one (ST.ret (EV.listRevN (EV.slL (EV.nm 2) EO.none (EO.some (EV.nm 1))) W.b.list W.b.reversed))) ?_))))))⟩
  · exact Fg.refl
  · rw [hnl] at hi
    have e : atO (ns.map D.int) i = .dat (.int (ns.getD i 0)) := by
      rw [atO_map hi, List.getD_eq_getElem?_getD, List.getElem?_eq_getElem hi]
      rfl
    rw [e]
    exact fP i hi
  · rw [u0]
    exact Fg.refl
  · exact uP i (by omega)
  · rw [v0]
    exact Fg.refl
  · exact vP i hi
  · rw [cutD_map, ← List.map_reverse]
    rfl
def drawsR (g : Pg) : Rel := fun os M o M' => ∃ (o0 : O) (res : List Int), SB (mkC g n_law_draws s_law_draws 0) db (pad n_law_draws [o0, .dat (.int 320)]) [] (.rt (.adr 1) [none, rowC res]) ∧ os = [o0, .dat (.int 320)] ∧ M = [] ∧ o = .adr 1 ∧ M' = [none, rowC res]
theorem ok_law_draws (W : Wd g) : FN g "_law_draws" 1 (drawsR g) := by
  refine FN.mk W.t_law_draws c_law_draws (fun _ _ _ _ _ _ us hl => match us, hl with | [_, _], _ => rfl) (fun os M o M' h => by obtain ⟨o0, res, _, rfl, _⟩ := h; rfl) (fun os M o M' h => ?_)
  obtain ⟨o0, res, h, rfl, rfl, rfl, rfl⟩ := h
  exact h
end
end
section
section
variable {g : Pg}
/-! ### steps over rows -/
def LK8 : List Int := [1, -1, 2, -2, 3, -3, 5, -40]
inductive Dd (n : Nat) : D → Prop where
  | turn {i : Nat} : i < n → Dd n (.tup [.str "turn", .int (i : Int)])
  | swap {i j : Nat} : i < n → j < n → j ≠ i → Dd n (.tup [.str "swap", .int (i : Int), .int (j : Int)])
  | add {i j : Nat} {k : Int} : i < n → j < n → j ≠ i → k ∈ LK8 → Dd n (.tup [.str "add", .int (i : Int), .int (j : Int), .int k])
theorem emod_of {x n : Int} (h0 : 0 ≤ x) (h1 : x < 2 * n) : x % n = if x < n then x else x - n := by
  split
  · exact Int.emod_eq_of_lt h0 (by omega)
  · have : x % n = (x - n) % n := by
      rw [← Int.add_emod_right (x - n) n]
      congr 1
      omega
    rw [this]
    exact Int.emod_eq_of_lt (by omega) (by omega)
theorem deed_run (W : Wd g) {n : Nat} (hn : 1 ≤ n ∧ n ≤ 8) (ns : List Int) : ∃ d ns', Dd n d ∧ Run g n_law_deed s_law_deed 1 [.adr 0, .dat (.int (n : Int))] [rowC ns] (.dat d) [rowC ns'] := by
  have T := ok_law_take W
  have p1 := tk_pos (ns := ns) (b := (n : Int)) (by omega)
  obtain ⟨ki, eki⟩ : ∃ k : Nat, tk ns n = (k : Int) := ⟨(tk ns n).toNat, by omega⟩
  have hki : ki < n := by omega
  let E : O → O → List O := fun i j => [.adr 0, .dat (.int (n : Int)), i, j]
  suffices ∃ d ns' J, Dd n d ∧ SB (mkC g n_law_deed s_law_deed 1) ((defBody s_law_deed).drop 1) (E (.dat (.int (ki : Int))) .no) [rowC (dl 1 ns)] (.rt (.dat d) (rowC ns' :: J)) by
    obtain ⟨d, ns', J, h1, h2⟩ := this
    exact ⟨d, ns', h1, Nat.le_refl _, True.intro, lowR, J, SB.cons (E1 := E (.dat (.int (ki : Int))) .no) (M1 := [rowC (dl 1 ns)]) (ST.set 2 (EV.to (ev_tk (ns := ns) (j := (n : Int)) T (EV.nm 0) (EV.nm 1) rfl (by omega)) (by rw [eki])) c_law_deed.nd) h2⟩
  have ret : ∀ {k : List Int}, SB (mkC g n_law_deed s_law_deed 1) (thenOf ((defBody s_law_deed).getD 1 (.Pass ⟨0, 0, 0, 0⟩))) (E (.dat (.int (ki : Int))) .no) [rowC k] (.rt (.dat (.tup [.str "turn", .int (ki : Int)])) [rowC k]) := fun {k} => SB.one (ST.ret (EV.tup (ds := [.str "turn", .int (ki : Int)]) (EA.cons EV.str (EA.cons (EV.nm 2) EA.nil)) (by show 2 ≤ 100000; decide)))
  by_cases h1 : n = 1
  · exact ⟨_, dl 1 ns, [], .turn hki, SB.stop (ST.yes (ET.to (EW.et (EW.or (k1 := true) (k2 := true) (ET.to (ET.cm (EV.nm 1) EV.int CS.eqI) (decide_eq_true (by omega))) (fun z => nomatch z) (fun _ => rfl))) rfl) ret)⟩
  · by_cases h2 : tk (dl 1 ns) 6 = 0
    · exact ⟨_, dl 2 ns, [], .turn hki, SB.stop (ST.yes (ET.to (EW.et (EW.or (k1 := false) (k2 := true) (ET.to (ET.cm (EV.nm 1) EV.int CS.eqI) (decide_eq_false (by omega))) (fun _ => EW.or1 (ET.to (ET.cm (ev_tk (ns := dl 1 ns) T (EV.nm 0) EV.int rfl (by decide)) EV.int CS.eqI) (decide_eq_true h2))) (fun z => nomatch z))) rfl) ret)⟩
    · have p2 := tk_pos (ns := dl 2 ns) (b := (n : Int) - 1) (by omega)
      have p3 := tk_pos (ns := dl 4 ns) (b := 8) (by decide)
      have hj : ((ki : Int) + 1 + tk (dl 2 ns) ((n : Int) - 1)) % (n : Int) = if (ki : Int) + 1 + tk (dl 2 ns) ((n : Int) - 1) < (n : Int) then (ki : Int) + 1 + tk (dl 2 ns) ((n : Int) - 1) else (ki : Int) + 1 + tk (dl 2 ns) ((n : Int) - 1) - (n : Int) := emod_of (by omega) (by omega)
      obtain ⟨kj, ekj⟩ : ∃ k : Nat, ((ki : Int) + 1 + tk (dl 2 ns) ((n : Int) - 1)) % (n : Int) = (k : Int) := ⟨(((ki : Int) + 1 + tk (dl 2 ns) ((n : Int) - 1)) % (n : Int)).toNat, by rw [hj]; split <;> omega⟩
      have hkj : kj < n ∧ kj ≠ ki := by
        rw [ekj] at hj
        split at hj <;> exact ⟨by omega, by omega⟩
      have no1 : ∀ {r : Out} {rest : List Stmt} {p : Pos} {ys : List Stmt}, SB (mkC g n_law_deed s_law_deed 1) rest (E (.dat (.int (ki : Int))) .no) [rowC (dl 2 ns)] r → SB (mkC g n_law_deed s_law_deed 1) (.If (ifOf ((defBody s_law_deed).getD 1 (.Pass ⟨0, 0, 0, 0⟩))) ys [] p :: rest) (E (.dat (.int (ki : Int))) .no) [rowC (dl 1 ns)] r := fun {r rest p ys} h => SB.cons (ST.no (ET.to (EW.et (EW.or (k1 := false) (k2 := false) (ET.to (ET.cm (EV.nm 1) EV.int CS.eqI) (decide_eq_false (by omega))) (fun _ => EW.or1 (ET.to (ET.cm (ev_tk (ns := dl 1 ns) T (EV.nm 0) EV.int rfl (by decide)) EV.int CS.eqI) (decide_eq_false h2))) (fun z => nomatch z))) rfl) SB.nil) h
      have sj : ∀ {r : Out} {rest : List Stmt}, SB (mkC g n_law_deed s_law_deed 1) rest (E (.dat (.int (ki : Int))) (.dat (.int (kj : Int)))) [rowC (dl 3 ns)] r → SB (mkC g n_law_deed s_law_deed 1) ((defBody s_law_deed).getD 2 (.Pass ⟨0, 0, 0, 0⟩) :: rest) (E (.dat (.int (ki : Int))) .no) [rowC (dl 2 ns)] r := fun {r rest} h => SB.cons (E1 := E (.dat (.int (ki : Int))) (.dat (.int (kj : Int)))) (M1 := [rowC (dl 3 ns)]) (ST.set 3 (EV.to (EV.mod (EV.intI (EV.add (EV.add (EV.nm 2) EV.int) (ev_tk (ns := dl 2 ns) (j := (n : Int) - 1) T (EV.nm 0) (EV.sub (EV.nm 1) EV.int) rfl (by omega))) W.b.int) (EV.nm 1) (by omega)) (by rw [ekj])) c_law_deed.nd) h
      by_cases h3 : tk (dl 3 ns) 5 = 0
      · exact ⟨_, dl 4 ns, [], .swap hki hkj.1 hkj.2, no1 (sj (SB.stop (ST.yes (ET.to (ET.cm (ev_tk (ns := dl 3 ns) T (EV.nm 0) EV.int rfl (by decide)) EV.int CS.eqI) (decide_eq_true h3)) (SB.one (ST.ret (EV.tup (ds := [.str "swap", .int (ki : Int), .int (kj : Int)]) (EA.cons EV.str (EA.cons (EV.nm 2) (EA.cons (EV.nm 3) EA.nil))) (by show 3 ≤ 100000; decide)))))))⟩
      · exact ⟨_, dl 5 ns, [], .add hki hkj.1 hkj.2 (pick_mem (L := LK8) p3), no1 (sj (SB.cons (ST.no (ET.to (ET.cm (ev_tk (ns := dl 3 ns) T (EV.nm 0) EV.int rfl (by decide)) EV.int CS.eqI) (decide_eq_false h3)) SB.nil) (SB.one (ST.ret (EV.tup (ds := [.str "add", .int (ki : Int), .int (kj : Int), .int (pick LK8 (tk (dl 4 ns) 8))]) (EA.cons EV.str (EA.cons (EV.nm 2) (EA.cons (EV.nm 3) (EA.cons (EV.ix (EV.lst (ds := LK8.map D.int) (EA.cons EV.int (EA.cons (EV.neg EV.int) (EA.cons EV.int (EA.cons (EV.neg EV.int) (EA.cons EV.int (EA.cons (EV.neg EV.int) (EA.cons EV.int (EA.cons (EV.neg EV.int) EA.nil)))))))) (by decide)) (ev_tk (ns := dl 4 ns) T (EV.nm 0) EV.int rfl (by decide)) (pick_at p3)) EA.nil)))) (by show 4 ≤ 100000; decide))))))⟩
theorem fn_deed (W : Wd g) : FN g "_law_deed" 2 (fun os M o M' => os.length = 2 ∧ Run g n_law_deed s_law_deed 1 os M o M') := FN.run (ps := ["row", "n"]) W.t_law_deed c_law_deed (fun _ _ _ _ _ _ us hl => match us, hl with | [_, _], _ => rfl)
/-- a step led -/
inductive Led (m : List (List Int)) : D → List (List Int) → Prop where
  | turn {i : Nat} : i < m.length → Led m (.tup [.str "turn", .int (i : Int)]) (m.set i ((m.getD i []).map fun x => 0 - x))
  | swap {i j : Nat} : i < m.length → j < m.length → j ≠ i → Led m (.tup [.str "swap", .int (i : Int), .int (j : Int)]) ((m.set i (m.getD j [])).set j (m.getD i []))
  | add {i j : Nat} {k : Int} : i < m.length → j < m.length → j ≠ i → k ∈ LK8 → Led m (.tup [.str "add", .int (i : Int), .int (j : Int), .int k]) (m.set i ((List.range (m.getD i []).length).map fun c => gE m i c + k * gE m j c))
theorem led_ex {m : List (List Int)} {d : D} (h : Dd m.length d) : ∃ m', Led m d m' := by
  cases h with
  | turn h1 => exact ⟨_, .turn h1⟩
  | swap h1 h2 h3 => exact ⟨_, .swap h1 h2 h3⟩
  | add h1 h2 h3 h4 => exact ⟨_, .add h1 h2 h3 h4⟩
theorem Led.len {m m' : List (List Int)} {d : D} (h : Led m d m') : m'.length = m.length := by
  cases h <;> simp only [List.length_set]
theorem Led.wid {m m' : List (List Int)} {d : D} {w : Nat} (h : Led m d m') (hw : ∀ q ∈ m, q.length = w) : ∀ q ∈ m', q.length = w := fun q hq => by
  cases h with
  | turn h1 =>
    rcases List.mem_or_eq_of_mem_set hq with hq | rfl
    · exact hw q hq
    · rw [List.length_map]
      exact hw _ (mem_getD h1)
  | swap h1 h2 h3 =>
    rcases List.mem_or_eq_of_mem_set hq with hq | rfl
    · rcases List.mem_or_eq_of_mem_set hq with hq | rfl
      · exact hw q hq
      · exact hw _ (mem_getD h2)
    · exact hw _ (mem_getD h1)
  | add h1 h2 h3 h4 =>
    rcases List.mem_or_eq_of_mem_set hq with hq | rfl
    · exact hw q hq
    · rw [List.length_map, List.length_range]
      exact hw _ (mem_getD h1)
theorem Led.sub {m m' : List (List Int)} {d : D} {w : Nat} (h : Led m d m') (hw : ∀ q ∈ m, q.length = w) : Sub m' m ∧ Sub m m' := by
  cases h with
  | @turn i h1 =>
    have e : m.set i ((m.getD i []).map fun x => 0 - x) = negL m i := by
      unfold negL
      congr 2
      funext x
      exact Int.zero_sub x
    rw [e]
    exact sub_neg h1
  | swap h1 h2 h3 => exact sub_swap h1 h2
  | @add i j k h1 h2 h3 h4 =>
    have hi := hw _ (mem_getD h1 : m.getD i [] ∈ m)
    have hj := hw _ (mem_getD h2 : m.getD j [] ∈ m)
    have e : m.set i ((List.range (m.getD i []).length).map fun c => gE m i c + k * gE m j c) = takeL m i (-k) j := by
      unfold takeL lessV
      congr 1
      refine List.ext_getElem (by rw [List.length_map, List.length_range, List.length_map, List.length_zip]; omega) fun c c1 c2 => ?_
      rw [List.length_map, List.length_range] at c1
      rw [List.getElem_map, List.getElem_range, List.getElem_map, List.getElem_zip]
      unfold gE
      rw [List.getD_eq_getElem?_getD (l := m.getD i []), List.getElem?_eq_getElem c1, List.getD_eq_getElem?_getD (l := m.getD j []), List.getElem?_eq_getElem (by omega)]
      show (m.getD i [])[c] + k * (m.getD j [])[c] = (m.getD i [])[c] - -k * (m.getD j [])[c]
      rw [Int.neg_mul]
      omega
    rw [e]
    exact sub_take h1 h2 (fun z => h3 z.symm) hw
end
end
section
section
variable {g : Pg}
theorem celS {m : List (List Int)} {i : Nat} {v : List Int} : (some (((m.map lV).map O.dat).set i (.dat (lV v))) : Option (List O)) = some (((m.set i v).map lV).map O.dat) := by
  rw [List.map_set, List.map_set]
theorem lV_map {α : Type} {f : α → Int} {xs : List α} : D.lst (xs.map fun x => D.int (f x)) = lV (xs.map f) := by
  show _ = D.lst ((xs.map f).map D.int)
  rw [List.map_map]
  rfl
theorem ok_law_lead (W : Wd g) : FN g "_law_lead" 1 (P2 fun d e r => ∃ m m', d = lM m ∧ Led m e m' ∧ m.length < 1000 ∧ (∀ q ∈ m, q.length < 1000) ∧ (∀ i j, i < m.length → j < m.length → (m.getD i []).length = (m.getD j []).length) ∧ r = lM m') := by
  refine FN.mk2x' W.t_law_lead c_law_lead (fun _ _ _ _ _ _ us hl => match us, hl with | [_, _], _ => rfl) (fun d e r h => ?_)
  obtain ⟨m, m', rfl, hL, hz, hz2, hrc, rfl⟩ := h
  let E : D → O → O → List O := fun e t i => [.dat (lM m), .dat e, t, i, .no, .no]
  have hcl : ∀ x : List (List Int), ((x.map lV).map O.dat).length = x.length := fun x => by rw [List.length_map, List.length_map]
  have fin : ∀ {e : D} {i : O}, SB (mkC g n_law_lead s_law_lead 0) ((defBody s_law_lead).drop 3) (E e (.adr 0) i) [some ((m'.map lV).map .dat)] (.rt (.dat (lM m')) [none]) := fun {e i} => SB.fz (jj := 2) (nn := 0) (ds := m'.map lV) rfl rfl (SB.one (ST.ret (EV.nm 2)))
  have start : ∀ {e : D} {i : Nat} {r : Out}, ixD e 1 = some (.int (i : Int)) → SB (mkC g n_law_lead s_law_lead 0) ((defBody s_law_lead).drop 2) (E e (.adr 0) (.dat (.int (i : Int)))) [some ((m.map lV).map .dat)] r → SB (mkC g n_law_lead s_law_lead 0) (defBody s_law_lead) (pad n_law_lead [.dat (lM m), .dat e]) [] r := fun {e i r} he h => SB.cons (E1 := E e (.adr 0) .no) (M1 := [some ((m.map lV).map .dat)]) (ST.set 2 (EV.listN (EV.nm 0) rfl W.b.list) c_law_lead.nd) (SB.cons (E1 := E e (.adr 0) (.dat (.int (i : Int)))) (M1 := [some ((m.map lV).map .dat)]) (ST.set 3 (EV.ix (EV.nm 1) EV.int he) c_law_lead.nd) h)
  refine ⟨[none], ?_⟩
  cases hL with
  | @turn i h1 =>
    refine start (i := i) rfl (SB.cons (E1 := E (.tup [.str "turn", .int (i : Int)]) (.adr 0) (.dat (.int (i : Int)))) (M1 := [some (((m.set i ((m.getD i []).map fun x => 0 - x)).map lV).map .dat)]) (ST.yes (ET.to (ET.cm (EV.ix (EV.nm 1) EV.int (by rfl)) EV.str CS.eqS) (by rfl)) (SB.one (ST.to (ST.asg (LC.ev (LC.lM 4 (xs := m.getD i []) (f := D.int) (g := fun x => .int (0 - x)) (own := [("x", 4)]) (by rfl) c_law_lead.nd rfl (EV.ix (EV.nm 0) (EV.nm 3) (ix_lM h1)) rfl (Nat.le_refl _) (OkM.dat OkM.nil) (by have := hz2 _ (mem_getD h1 : m.getD i [] ∈ m); omega) (fun x hx M => EV.sub EV.int (EV.nm 4)))) (EG.sub (n := 0) (jj := i) (ps := (m.map lV).map O.dat) (EV.nm 2) (EV.nm 3) rfl (by rw [hcl]; exact ixN_of h1))) ?_))) fin)
    show Out.nx _ [some (((m.map lV).map O.dat).set i (.dat (.lst ((m.getD i []).map fun x => .int (0 - x)))))] = _
    rw [lV_map, celS]
  | @swap i j h1 h2 h3 =>
    refine start (i := i) rfl (SB.cons (E1 := E (.tup [.str "swap", .int (i : Int), .int (j : Int)]) (.adr 0) (.dat (.int (i : Int)))) (M1 := [some ((((m.set i (m.getD j [])).set j (m.getD i [])).map lV).map .dat)]) (ST.no (ET.to (ET.cm (EV.ix (EV.nm 1) EV.int (by rfl)) EV.str CS.eqS) (by rfl)) (SB.one (ST.yes (ET.to (ET.cm (EV.ix (EV.nm 1) EV.int (by rfl)) EV.str CS.eqS) (by rfl)) (SB.cons (E1 := E (.tup [.str "swap", .int (i : Int), .int (j : Int)]) (.adr 0) (.dat (.int (i : Int)))) (M1 := [some (((m.set i (m.getD j [])).map lV).map .dat)]) (ST.to (ST.asg (EV.ix (EV.nm 0) (EV.ix (EV.nm 1) EV.int (by rfl)) (ix_lM h2)) (EG.sub (n := 0) (jj := i) (ps := (m.map lV).map O.dat) (EV.nm 2) (EV.nm 3) rfl (by rw [hcl]; exact ixN_of h1))) ?_) (SB.one (ST.to (ST.asg (EV.ix (EV.nm 0) (EV.nm 3) (ix_lM h1)) (EG.sub (n := 0) (jj := j) (ps := ((m.set i (m.getD j [])).map lV).map O.dat) (EV.nm 2) (EV.ix (EV.nm 1) EV.int (by rfl)) rfl (by rw [hcl, List.length_set]; exact ixN_of h2))) ?_)))))) fin)
    · show Out.nx _ [some (((m.map lV).map O.dat).set i (.dat (lV (m.getD j []))))] = _
      rw [celS]
    · show Out.nx _ [some ((((m.set i (m.getD j [])).map lV).map O.dat).set j (.dat (lV (m.getD i []))))] = _
      rw [celS]
  | @add i j k h1 h2 h3 h4 =>
    have hk : -40 ≤ k ∧ k ≤ 5 := by
      have : ∀ x ∈ LK8, -40 ≤ x ∧ x ≤ 5 := by decide
      exact this k h4
    have hij := hrc i j h1 h2
    refine start (i := i) rfl (SB.cons (E1 := E (.tup [.str "add", .int (i : Int), .int (j : Int), .int k]) (.adr 0) (.dat (.int (i : Int)))) (M1 := [some (((m.set i ((List.range (m.getD i []).length).map fun c => gE m i c + k * gE m j c)).map lV).map .dat)]) (ST.no (ET.to (ET.cm (EV.ix (EV.nm 1) EV.int (by rfl)) EV.str CS.eqS) (by rfl)) (SB.one (ST.no (ET.to (ET.cm (EV.ix (EV.nm 1) EV.int (by rfl)) EV.str CS.eqS) (by rfl)) (SB.one (ST.to (ST.asg (LC.ev (LC.lR 5 (j := ((m.getD i []).length : Int)) (g := fun c => .int (gE m i c + k * gE m j c)) (own := [("c", 5)]) (by rfl) c_law_lead.nd rfl (EV.len (EV.ix (EV.nm 0) (EV.nm 3) (ix_lM h1)) len_lV W.b.len) W.b.range (Nat.le_refl _) (OkM.dat OkM.nil) (by have := hz2 _ (mem_getD h1 : m.getD i [] ∈ m); omega) (fun c hc M => EV.add (ev_at sq_l (EV.nm 0) (EV.nm 3) (EV.nm 5) h1 (by omega)) (EV.mul (EV.ix (EV.nm 1) EV.int (by rfl)) (ev_at sq_l (EV.nm 0) (EV.ix (EV.nm 1) EV.int (by rfl)) (EV.nm 5) h2 (by omega)) (mul_okL (by omega)))))) (EG.sub (n := 0) (jj := i) (ps := (m.map lV).map O.dat) (EV.nm 2) (EV.nm 3) rfl (by rw [hcl]; exact ixN_of h1))) ?_))))) fin)
    rw [Int.toNat_natCast]
    show Out.nx _ [some (((m.map lV).map O.dat).set i (.dat (.lst ((List.range (m.getD i []).length).map fun c => .int (gE m i c + k * gE m j c)))))] = _
    rw [lV_map, celS]
end
end
section
section
variable {g : Pg}
abbrev colC (l : List Nat) : Option (List O) := some ((l.map fun (k : Nat) => D.int (k : Int)).map O.dat)
theorem colC_app {l : List Nat} {k : Nat} : (some ((l.map fun (k : Nat) => D.int (k : Int)).map O.dat ++ [O.dat (.int (k : Int))]) : Option (List O)) = colC (l ++ [k]) := by
  show _ = some _
  rw [List.map_append, List.map_append]
  rfl
theorem getD_set {v : List Int} {j k : Nat} {x : Int} (h : j < v.length) : (v.set j x).getD k 0 = if k = j then x else v.getD k 0 := by
  rw [List.getD_eq_getElem?_getD, List.getElem?_set, List.getD_eq_getElem?_getD]
  by_cases e : k = j
  · rw [if_pos e, if_pos e.symm, if_pos h]
    rfl
  · rw [if_neg e, if_neg (fun z => e z.symm)]
theorem r3_get {a b c x : Option (List O)} (i : Nat) : (a :: b :: c :: (List.replicate i (none : Option (List O)) ++ [x]))[i + 3]? = some x := by
  show (List.replicate i none ++ [x])[i]? = _
  rw [List.getElem?_append_right (by rw [List.length_replicate]; exact Nat.le_refl _), List.length_replicate, Nat.sub_self]
  rfl
theorem r3_set {a b c x y : Option (List O)} (i : Nat) : (a :: b :: c :: (List.replicate i (none : Option (List O)) ++ [x])).set (i + 3) y = a :: b :: c :: (List.replicate i none ++ [y]) := by
  show a :: b :: c :: (List.replicate i none ++ [x]).set i y = _
  rw [List.set_append_right _ _ (by rw [List.length_replicate]; exact Nat.le_refl _), List.length_replicate, Nat.sub_self]
  rfl
def LW7 : List Int := [1, 1, 2, 3, 4, 6, 12]
theorem LW7_ok : ∀ x ∈ LW7, 1 ≤ x ∧ x ≤ 12 := by decide
structure RowF (m : Nat) (cols : List Nat) (ws : List Int) (i : Nat) (v : List Int) : Prop where
  len : v.length = m
  num : ∀ x ∈ v, x.natAbs ≤ 12
  left : ∀ j, j < cols.getD i 0 → v.getD j 0 = 0
  pv : v.getD (cols.getD i 0) 0 = ws.getD i 0
  abv : ∀ k, i < k → k < cols.length → 0 ≤ v.getD (cols.getD k 0) 0 ∧ v.getD (cols.getD k 0) 0 < ws.getD k 0
structure Fm (n m : Nat) (T : List (List Int)) (cols : List Nat) (ws : List Int) : Prop where
  inc : cols.Pairwise (· < ·)
  lt : ∀ c ∈ cols, c < m
  len : cols.length ≤ n
  wl : ws.length = cols.length
  wn : ∀ x ∈ ws, 1 ≤ x ∧ x ≤ 12
  tl : T.length = cols.length
  row : ∀ i, i < cols.length → RowF m cols ws i (T.getD i [])
theorem set_num {v : List Int} {j : Nat} {x : Int} (h : ∀ y ∈ v, y.natAbs ≤ 12) (hx : x.natAbs ≤ 12) : ∀ y ∈ v.set j x, y.natAbs ≤ 12 := fun y hy => by
  rcases List.mem_or_eq_of_mem_set hy with hy | rfl
  · exact h y hy
  · exact hx
abbrev fb : List Stmt := defBody s_law_form
theorem form_run (W : Wd g) {n m : Nat} {full : Bool} (hn : n ≤ 8) (hm : m ≤ 8) (ns : List Int) : ∃ T cols ws ns', Fm n m T cols ws ∧ Run g n_law_form s_law_form 1 [.adr 0, .dat (.int (n : Int)), .dat (.int (m : Int)), .dat (.bl full)] [rowC ns] (.dat (.tup [lM T, lN cols, lV ws])) [rowC ns'] := by
  have TK := ok_law_take W
  let C := mkC g n_law_form s_law_form 1
  let Fr : O → O → O → O → O → O → O → List O := fun c j w t i l k => [.adr 0, .dat (.int (n : Int)), .dat (.int (m : Int)), .dat (.bl full), c, j, w, t, i, l, k]
  obtain ⟨f, f0, fI, fP⟩ := chain (S := List Int × List Nat) (n := m) (I := fun i s => s.2.Pairwise (· < ·) ∧ (∀ c ∈ s.2, c < i) ∧ s.2.length ≤ n)
    (P := fun i s s' => SB C (bodyOf (fb.getD 1 (.Pass ⟨0, 0, 0, 0⟩))) (Fr (.adr 1) (.dat (.int (i : Int))) .no .no .no .no .no) [rowC s.1, colC s.2] (.nx (Fr (.adr 1) (.dat (.int (i : Int))) .no .no .no .no .no) [rowC s'.1, colC s'.2])) (fun i hi s hs => by
      obtain ⟨k1, cols⟩ := s
      obtain ⟨h1, h2, h3⟩ := hs
      simp only at h1 h2 h3
      have hcl : ((cols.map fun (k : Nat) => D.int (k : Int)).map O.dat).length = cols.length := by rw [List.length_map, List.length_map]
      have push : cols.length < n → (cols ++ [i]).Pairwise (· < ·) ∧ (∀ c ∈ cols ++ [i], c < i + 1) ∧ (cols ++ [i]).length ≤ n := fun hl => by
        refine ⟨?_, fun c hc => ?_, by rw [List.length_append]; exact hl⟩
        · rw [List.pairwise_append]
          exact ⟨h1, List.pairwise_singleton .., fun a ha b hb => by rw [List.mem_singleton.mp hb]; exact h2 a ha⟩
        · rcases List.mem_append.mp hc with hc | hc
          · have := h2 c hc; omega
          · rw [List.mem_singleton.mp hc]; omega
      have keep : cols.Pairwise (· < ·) ∧ (∀ c ∈ cols, c < i + 1) ∧ cols.length ≤ n := ⟨h1, fun c hc => by have := h2 c hc; omega, h3⟩
      have app : ∀ {k : List Int}, SB C (thenOf ((bodyOf (fb.getD 1 (.Pass ⟨0, 0, 0, 0⟩))).getD 0 (.Pass ⟨0, 0, 0, 0⟩))) (Fr (.adr 1) (.dat (.int (i : Int))) .no .no .no .no .no) [rowC k, colC cols] (.nx (Fr (.adr 1) (.dat (.int (i : Int))) .no .no .no .no .no) [rowC k, colC (cols ++ [i])]) := fun {k} => SB.one (ST.to (ST.exp (EV.append (n := 1) (ps := (cols.map fun (k : Nat) => D.int (k : Int)).map O.dat) (EV.nm 4) (EV.nm 5) rfl rfl (by rw [hcl]; omega))) (by rw [← colC_app]; rfl))
      by_cases hl : cols.length < n
      · have hlt : ∀ {k : List Int} {p1 p2 p3 p4 : Pos}, ET C (.Compare (.Call (.Name "len" p1) [.Name "columns" p2] [] p3) [.Lt] [.Name "n" p4] p1) (Fr (.adr 1) (.dat (.int (i : Int))) .no .no .no .no .no) [rowC k, colC cols] true [rowC k, colC cols] := fun {k p1 p2 p3 p4} => ET.to (ET.cm (EV.lenC (EV.nm 4) rfl W.b.len) (EV.nm 1) CS.ltI) (by rw [hcl]; exact decide_eq_true (by omega))
        cases hf : full with
        | true =>
          subst hf
          exact ⟨(k1, cols ++ [i]), SB.one (ST.yes (ET.to (EW.et (EW.and (k1 := true) (k2 := true) (ET.to (ET.cm (EV.lenC (EV.nm 4) rfl W.b.len) (EV.nm 1) CS.ltI) (by rw [hcl]; exact decide_eq_true (by omega))) (fun _ => EW.and1 (EW.et (EW.or (k1 := true) (k2 := true) (ET.val (EV.nm 3)) (fun z => nomatch z) (fun _ => rfl)))) (fun z => nomatch z))) rfl) app), push hl⟩
        | false =>
          subst hf
          by_cases h0 : 0 < tk k1 3
          · exact ⟨(dl 1 k1, cols ++ [i]), SB.one (ST.yes (ET.to (EW.et (EW.and (k1 := true) (k2 := true) (ET.to (ET.cm (EV.lenC (EV.nm 4) rfl W.b.len) (EV.nm 1) CS.ltI) (by rw [hcl]; exact decide_eq_true (by omega))) (fun _ => EW.and1 (EW.et (EW.or (k1 := false) (k2 := true) (ET.val (EV.nm 3)) (fun _ => EW.or1 (ET.to (ET.cm (ev_tk (ns := k1) TK (EV.nm 0) EV.int rfl (by decide)) EV.int CS.gtI) (decide_eq_true h0))) (fun z => nomatch z)))) (fun z => nomatch z))) rfl) app), push hl⟩
          · exact ⟨(dl 1 k1, cols), SB.one (ST.no (M1 := [rowC (dl 1 k1), colC cols]) (ET.to (EW.et (EW.and (k1 := true) (k2 := false) (ET.to (ET.cm (EV.lenC (EV.nm 4) rfl W.b.len) (EV.nm 1) CS.ltI) (by rw [hcl]; exact decide_eq_true (by omega))) (fun _ => EW.and1 (EW.et (EW.or (k1 := false) (k2 := false) (ET.val (EV.nm 3)) (fun _ => EW.or1 (ET.to (ET.cm (ev_tk (ns := k1) TK (EV.nm 0) EV.int rfl (by decide)) EV.int CS.gtI) (decide_eq_false h0))) (fun z => nomatch z)))) (fun z => nomatch z))) rfl) SB.nil), keep⟩
      · exact ⟨(k1, cols), SB.one (ST.no (M1 := [rowC k1, colC cols]) (ET.to (EW.et (EW.and (k1 := false) (k2 := true) (ET.to (ET.cm (EV.lenC (EV.nm 4) rfl W.b.len) (EV.nm 1) CS.ltI) (by rw [hcl]; exact decide_eq_false (by omega))) (fun z => nomatch z) (fun _ => rfl))) rfl) SB.nil), keep⟩) (ns, []) ⟨List.Pairwise.nil, fun c hc => by simp at hc, Nat.zero_le _⟩
  obtain ⟨c1, c2, c3⟩ := fI m (Nat.le_refl m)
  generalize hcols : (f m).2 = cols at c1 c2 c3
  generalize hns1 : (f m).1 = ns1
  let ws : List Int := (List.range cols.length).map fun i => pick LW7 (tk (dl i ns1) 7)
  have wl : ws.length = cols.length := by show (List.map _ _).length = _; rw [List.length_map, List.length_range]
  have wn : ∀ x ∈ ws, 1 ≤ x ∧ x ≤ 12 := fun x hx => by
    obtain ⟨i, _, rfl⟩ := List.mem_map.mp hx
    exact LW7_ok _ (pick_mem (tk_pos (by decide)))
  have wat : ∀ i, i < cols.length → 1 ≤ ws.getD i 0 ∧ ws.getD i 0 ≤ 12 := fun i hi => wn _ (mem_getD (by omega))
  have wsd : D.lst ((List.range cols.length).map fun i => D.int (pick LW7 (tk (dl i ns1) 7))) = lV ws := lV_map
  clear_value ws
  have catl : ∀ i, i < cols.length → cols.getD i 0 < m := fun i hi => c2 _ (mem_getD hi)
  have cinc : ∀ i k, i < k → k < cols.length → cols.getD i 0 < cols.getD k 0 := fun i k hik hk => by
    have := List.pairwise_iff_getElem.mp c1 i k (by omega) hk hik
    rw [List.getD_eq_getElem?_getD, List.getD_eq_getElem?_getD, List.getElem?_eq_getElem hk, List.getElem?_eq_getElem (by omega : i < cols.length)]
    exact this
  let G : O → O → O → O → O → List O := fun j t i l k => Fr (.dat (lN cols)) j (.dat (lV ws)) t i l k
  let Me : List Int → List (List Int) → Nat → Mem := fun k T i => rowC k :: none :: cel T :: List.replicate i none
  let Ml : List Int → List (List Int) → Nat → List Int → Mem := fun k T i v => rowC k :: none :: cel T :: (List.replicate i none ++ [rowC v])
  have lrow : ∀ (k v : List Int) (T : List (List Int)) (i : Nat), (Ml k T i v)[i + 3]? = some (rowC v) := fun k v T i => r3_get i
  obtain ⟨h, h0, hI, hP⟩ := chain (S := List Int × List (List Int)) (n := cols.length) (I := fun i s => s.2.length = i ∧ ∀ a, a < i → RowF m cols ws a (s.2.getD a []))
    (P := fun i s s' => ∃ E2, Fg E2 (G .no (.adr 2) .no .no .no) ∧ SB C (bodyOf (fb.getD 4 (.Pass ⟨0, 0, 0, 0⟩))) (G .no (.adr 2) (.dat (.int (i : Int))) .no .no) (Me s.1 s.2 i) (.nx E2 (Me s'.1 s'.2 (i + 1)))) (fun i hi s hs => by
      obtain ⟨k1, T⟩ := s
      obtain ⟨h1, h2⟩ := hs
      simp only at h1 h2
      have hci := catl i hi
      have hwi := wat i hi
      have lnix : ∀ (a : Nat), a < cols.length → ixD (lN cols) (a : Int) = some (.int (cols.getD a 0 : Int)) := fun a ha => lN_at ha
      -- the numbers behind the head
      obtain ⟨u, u0, uI, uP⟩ := chain (S := List Int × List Int) (n := m - (cols.getD i 0 + 1)) (I := fun t s => s.2.length = m ∧ (∀ x ∈ s.2, x.natAbs ≤ 12) ∧ ∀ j, j ≤ cols.getD i 0 → s.2.getD j 0 = 0)
        (P := fun t s s' => SB C (bodyOf ((bodyOf (fb.getD 4 (.Pass ⟨0, 0, 0, 0⟩))).getD 1 (.Pass ⟨0, 0, 0, 0⟩))) (G (.dat (.int ((cols.getD i 0 + 1 + t : Nat) : Int))) (.adr 2) (.dat (.int (i : Int))) (.adr (i + 3)) .no) (Ml s.1 T i s.2) (.nx (G (.dat (.int ((cols.getD i 0 + 1 + t : Nat) : Int))) (.adr 2) (.dat (.int (i : Int))) (.adr (i + 3)) .no) (Ml s'.1 T i s'.2))) (fun t ht s hs => by
          obtain ⟨k2, v⟩ := s
          obtain ⟨v1, v2, v3⟩ := hs
          simp only at v1 v2 v3
          have p := tk_pos (ns := k2) (b := 19) (by decide)
          refine ⟨(dl 1 k2, v.set (cols.getD i 0 + 1 + t) (tk k2 19 - 9)), SB.one (ST.to (ST.asg (M1 := Ml (dl 1 k2) T i v) (o := .dat (.int (tk k2 19 - 9))) (EV.sub (ev_tk (ns := k2) TK (EV.nm 0) EV.int rfl (by decide)) EV.int) (EG.sub (n := i + 3) (jj := cols.getD i 0 + 1 + t) (ps := (v.map D.int).map O.dat) (EV.nm 9) (EV.nm 5) (lrow _ _ _ _) (by rw [row_len]; exact ixN_of (by omega)))) ?_), by rw [List.length_set]; exact v1, set_num v2 (by omega), fun j hj => ?_⟩
          · show Out.nx _ ((Ml (dl 1 k2) T i v).set (i + 3) _) = _
            rw [r3_set, row_set]
          · rw [getD_set (by omega), if_neg (by omega)]
            exact v3 j hj) (k1, List.replicate m 0) ⟨List.length_replicate, fun x hx => by rw [List.eq_of_mem_replicate hx]; decide, fun j _ => rep_zero⟩
      obtain ⟨u1, u2, u3⟩ := uI _ (Nat.le_refl _)
      generalize hu : u (m - (cols.getD i 0 + 1)) = ue at u1 u2 u3
      obtain ⟨k3, v3⟩ := ue
      simp only at u1 u2 u3
      -- above the heads that follow
      obtain ⟨z, z0, zI, zP⟩ := chain (S := List Int × List Int) (n := cols.length - (i + 1)) (I := fun t s => s.2.length = m ∧ (∀ x ∈ s.2, x.natAbs ≤ 12) ∧ (∀ j, j < cols.getD i 0 → s.2.getD j 0 = 0) ∧ s.2.getD (cols.getD i 0) 0 = ws.getD i 0 ∧ ∀ k, i < k → k < i + 1 + t → 0 ≤ s.2.getD (cols.getD k 0) 0 ∧ s.2.getD (cols.getD k 0) 0 < ws.getD k 0)
        (P := fun t s s' => SB C (bodyOf ((bodyOf (fb.getD 4 (.Pass ⟨0, 0, 0, 0⟩))).getD 3 (.Pass ⟨0, 0, 0, 0⟩))) (G .no (.adr 2) (.dat (.int (i : Int))) (.adr (i + 3)) (.dat (.int ((i + 1 + t : Nat) : Int)))) (Ml s.1 T i s.2) (.nx (G .no (.adr 2) (.dat (.int (i : Int))) (.adr (i + 3)) (.dat (.int ((i + 1 + t : Nat) : Int)))) (Ml s'.1 T i s'.2))) (fun t ht s hs => by
          obtain ⟨k2, v⟩ := s
          obtain ⟨v1, v2, v3, v4, v5⟩ := hs
          simp only at v1 v2 v3 v4 v5
          have hlt : i + 1 + t < cols.length := by omega
          have hw := wat _ hlt
          have hc := catl _ hlt
          have hc2 := cinc i (i + 1 + t) (by omega) hlt
          have p := tk_pos (ns := k2) (b := ws.getD (i + 1 + t) 0) (by omega)
          refine ⟨(dl 1 k2, v.set (cols.getD (i + 1 + t) 0) (tk k2 (ws.getD (i + 1 + t) 0))), SB.one (ST.to (ST.asg (M1 := Ml (dl 1 k2) T i v) (o := .dat (.int (tk k2 (ws.getD (i + 1 + t) 0)))) (ev_tk (ns := k2) TK (EV.nm 0) (EV.ix (EV.nm 6) (EV.nm 10) (ix_lV (by omega))) rfl (by omega)) (EG.sub (n := i + 3) (jj := cols.getD (i + 1 + t) 0) (ps := (v.map D.int).map O.dat) (EV.nm 9) (EV.ix (EV.nm 4) (EV.nm 10) (lnix _ hlt)) (lrow _ _ _ _) (by rw [row_len]; exact ixN_of (by omega)))) ?_), by rw [List.length_set]; exact v1, set_num v2 (by omega), fun j hj => ?_, ?_, fun k hk1 hk2 => ?_⟩
          · show Out.nx _ ((Ml (dl 1 k2) T i v).set (i + 3) _) = _
            rw [r3_set, row_set]
          · rw [getD_set (by omega), if_neg (by omega)]
            exact v3 j hj
          · rw [getD_set (by omega), if_neg (by omega)]
            exact v4
          · rw [getD_set (by omega)]
            by_cases he : k = i + 1 + t
            · rw [he, if_pos rfl]
              exact p
            · have := cinc k (i + 1 + t) (by omega) hlt
              rw [if_neg (by omega)]
              exact v5 k hk1 (by omega)) (k3, v3.set (cols.getD i 0) (ws.getD i 0)) ⟨by rw [List.length_set]; exact u1, set_num u2 (by omega), fun j hj => by rw [getD_set (by omega), if_neg (by omega)]; exact u3 j (by omega), by rw [getD_set (by omega), if_pos rfl], fun k a b => by omega⟩
      obtain ⟨z1, z2, z3, z4, z5⟩ := zI _ (Nat.le_refl _)
      generalize hz : z (cols.length - (i + 1)) = ze at z1 z2 z3 z4 z5
      obtain ⟨k4, v4⟩ := ze
      simp only at z1 z2 z3 z4 z5
      have hrow : RowF m cols ws i v4 := ⟨z1, z2, z3, z4, fun k a b => z5 k a (by omega)⟩
      refine ⟨(k4, T ++ [v4]), ⟨G .no (.adr 2) (.dat (.int (i : Int))) (.dat (lV v4)) .no, Fg.cons (Fg.cons (Fg.cons (Fg.cons (Fg.cons (Fg.cons (Fg.cons (Fg.cons (Fg.no (Fg.no (Fg.cons Fg.nil)))))))))), ?_⟩, by rw [List.length_append, h1]; rfl, fun a ha => ?_⟩
      · refine SB.cons (E1 := G .no (.adr 2) (.dat (.int (i : Int))) (.adr (i + 3)) .no) (M1 := Ml k1 T i (List.replicate m 0)) (ST.to (ST.set 9 (EV.bin (EV.lst (ds := [.int 0]) (EA.cons EV.int EA.nil) (by show 1 ≤ 100000; decide)) (EV.nm 2) (BS.mulLN (by omega) (by omega) (by show 1 ≤ 100; decide))) c_law_form.nd) ?_) ?_
        · show Out.nx (G .no (.adr 2) (.dat (.int (i : Int))) (.adr ((Me k1 T i).length)) .no) (Me k1 T i ++ [some ((List.replicate ((m : Nat) : Int).toNat [D.int 0]).flatten.map .dat)]) = _
          rw [repI, Int.toNat_natCast]
          show Out.nx (G _ _ _ (.adr ((List.replicate i none).length + 3)) _) _ = _
          rw [List.length_replicate]
          rfl
        have eat : ∀ (a t : Nat), atI0 ((a : Int) + 1) t = .dat (.int ((a + 1 + t : Nat) : Int)) := fun a t => by
          unfold atI0
          rw [Int.natCast_add, Int.natCast_add]
          rfl
        refine SB.cons (E1 := G .no (.adr 2) (.dat (.int (i : Int))) (.adr (i + 3)) .no) (M1 := Ml k3 T i v3) (ST.to (ST.forN 5 (n := ((m : Int) - ((cols.getD i 0 : Int) + 1)).toNat) (E_ := fun _ => G .no (.adr 2) (.dat (.int (i : Int))) (.adr (i + 3)) .no) (M_ := fun t => Ml (u t).1 T i (u t).2) (EI.rng2 (EV.add (EV.ix (EV.nm 4) (EV.nm 8) (lnix _ hi)) EV.int) (EV.nm 2) W.b.range (by omega) (by omega)) Fg.refl (by rw [u0]) (fun _ _ => True.intro) c_law_form.nd (fun t ht => ?_)) (by rw [show ((m : Int) - ((cols.getD i 0 : Int) + 1)).toNat = m - (cols.getD i 0 + 1) by omega, hu])) ?_
        · rw [eat]
          exact ⟨_, Fg.cons (Fg.cons (Fg.cons (Fg.cons (Fg.cons (Fg.no (Fg.cons (Fg.cons (Fg.cons (Fg.cons (Fg.cons Fg.nil)))))))))), uP t (by omega)⟩
        refine SB.cons (E1 := G .no (.adr 2) (.dat (.int (i : Int))) (.adr (i + 3)) .no) (M1 := Ml k3 T i (v3.set (cols.getD i 0) (ws.getD i 0))) (ST.to (ST.asg (M1 := Ml k3 T i v3) (EV.ix (EV.nm 6) (EV.nm 8) (ix_lV (by omega))) (EG.sub (n := i + 3) (jj := cols.getD i 0) (ps := (v3.map D.int).map O.dat) (EV.nm 9) (EV.ix (EV.nm 4) (EV.nm 8) (lnix _ hi)) (lrow _ _ _ _) (by rw [row_len]; exact ixN_of (by omega)))) ?_) ?_
        · show Out.nx _ ((Ml k3 T i v3).set (i + 3) _) = _
          rw [r3_set, row_set]
        refine SB.cons (E1 := G .no (.adr 2) (.dat (.int (i : Int))) (.adr (i + 3)) .no) (M1 := Ml k4 T i v4) (ST.to (ST.forN 10 (n := ((cols.length : Int) - ((i : Int) + 1)).toNat) (E_ := fun _ => G .no (.adr 2) (.dat (.int (i : Int))) (.adr (i + 3)) .no) (M_ := fun t => Ml (z t).1 T i (z t).2) (EI.rng2 (EV.add (EV.nm 8) EV.int) (EV.len (EV.nm 4) lN_len W.b.len) W.b.range (by omega) (by omega)) Fg.refl (by rw [z0]) (fun _ _ => True.intro) c_law_form.nd (fun t ht => ?_)) (by rw [show ((cols.length : Int) - ((i : Int) + 1)).toNat = cols.length - (i + 1) by omega, hz])) ?_
        · rw [eat]
          exact ⟨_, Fg.cons (Fg.cons (Fg.cons (Fg.cons (Fg.cons (Fg.cons (Fg.cons (Fg.cons (Fg.cons (Fg.cons (Fg.no Fg.nil)))))))))), zP t (by omega)⟩
        refine SB.fz (jj := 9) (nn := i + 3) (ds := v4.map D.int) rfl (lrow _ _ _ _) ?_
        rw [r3_set]
        refine SB.one (ST.to (ST.exp (EV.append (n := 2) (ps := (T.map lV).map O.dat) (EV.nm 7) (EV.nm 9) rfl rfl (by rw [List.length_map, List.length_map]; omega))) ?_)
        show Out.nx _ (rowC k4 :: none :: some (_ ++ [O.dat (lV v4)]) :: (List.replicate i none ++ [none])) = Out.nx _ (rowC k4 :: none :: some (((T ++ [v4]).map lV).map O.dat) :: List.replicate (i + 1) none)
        rw [List.replicate_succ', List.map_append, List.map_append]
        rfl
      · by_cases he : a = i
        · subst he
          rw [List.getD_eq_getElem?_getD, List.getElem?_append_right (by omega), h1, Nat.sub_self]
          exact hrow
        · rw [List.getD_eq_getElem?_getD, List.getElem?_append_left (by omega), ← List.getD_eq_getElem?_getD]
          exact h2 a (by omega)) (dl cols.length ns1, []) ⟨rfl, fun a ha => absurd ha (Nat.not_lt_zero a)⟩
  obtain ⟨a1, a2⟩ := hI cols.length (Nat.le_refl _)
  refine ⟨(h cols.length).2, cols, ws, (h cols.length).1, ⟨c1, c2, c3, wl, wn, a1, a2⟩, Nat.le_refl _, True.intro, lowR, none :: none :: List.replicate cols.length none, ?_⟩
  refine SB.cons (E1 := Fr (.adr 1) .no .no .no .no .no .no) (M1 := [rowC ns, colC []]) (ST.set 4 (EV.cel EA.nil (by decide)) c_law_form.nd) (SB.cons (E1 := Fr (.adr 1) .no .no .no .no .no .no) (M1 := [rowC ns1, colC cols]) (ST.to (ST.forN 5 (n := ((m : Nat) : Int).toNat) (E_ := fun _ => Fr (.adr 1) .no .no .no .no .no .no) (M_ := fun i => [rowC (f i).1, colC (f i).2]) (EI.rng1 (EV.nm 2) W.b.range (by omega)) Fg.refl (by rw [f0]) (fun _ _ => True.intro) c_law_form.nd (fun i hi => ⟨_, ?_, by rw [atI0_eq]; exact fP i (by omega)⟩)) (by rw [Int.toNat_natCast, hcols, hns1])) ?_)
  · exact Fg.cons (Fg.cons (Fg.cons (Fg.cons (Fg.cons (Fg.no (Fg.cons (Fg.cons (Fg.cons (Fg.cons (Fg.cons Fg.nil))))))))))
  refine SB.fz (jj := 4) (nn := 1) (ds := cols.map fun (k : Nat) => D.int (k : Int)) rfl rfl ?_
  have hcl : (cols.map fun (k : Nat) => D.int (k : Int)).length = cols.length := List.length_map _
  refine SB.cons (E1 := G .no .no .no .no .no) (M1 := [rowC (dl cols.length ns1), none]) (ST.to (LC.set 6 (LC.lS (own := [("j", 5)]) (M1 := [rowC ns1, none]) (v := fun i => .int (pick LW7 (tk (dl i ns1) 7))) (M_ := fun i => [rowC (dl i ns1), none]) (by rfl) c_law_form.nd (EI.lst (EV.nm 4)) rfl (fun _ _ => rfl) (fun _ _ _ => True.intro) (by omega) (Nat.le_refl _) (OkM.dat (OkM.same OkM.nil)) (fun i hi => ⟨_, fun M => EGv.nm 5 c_law_form.nd (by simp), fun c => EV.ix (EV.lst (ds := LW7.map D.int) (EA.cons EV.int (EA.cons EV.int (EA.cons EV.int (EA.cons EV.int (EA.cons EV.int (EA.cons EV.int (EA.cons EV.int EA.nil))))))) (by decide)) (ev_tk (ns := dl i ns1) TK (EV.nm 0) EV.int rfl (by decide)) (pick_at (tk_pos (by decide)))⟩)) rfl rfl (fun env he => sw_true (by rw [he]; rfl) (by rw [he]; rfl) (by rfl) (by rfl))) ?_) ?_
  · rw [hcl, wsd]
    rfl
  refine SB.cons (E1 := G .no (.adr 2) .no .no .no) (M1 := Me (dl cols.length ns1) [] 0) (ST.set 7 (EV.cel EA.nil (by decide)) c_law_form.nd) (SB.cons (E1 := G .no (.adr 2) .no .no .no) (M1 := Me (h cols.length).1 (h cols.length).2 cols.length) (ST.to (ST.forN 8 (n := ((cols.length : Nat) : Int).toNat) (E_ := fun _ => G .no (.adr 2) .no .no .no) (M_ := fun i => Me (h i).1 (h i).2 i) (EI.rng1 (EV.len (EV.nm 4) lN_len W.b.len) W.b.range (by omega)) Fg.refl (by rw [h0]) (fun _ _ => True.intro) c_law_form.nd (fun i hi => by rw [atI0_eq]; exact hP i (by omega))) (by rw [Int.toNat_natCast])) ?_)
  refine SB.fz (jj := 7) (nn := 2) (ds := (h cols.length).2.map lV) rfl rfl ?_
  exact SB.one (ST.ret (EV.tup (ds := [lM (h cols.length).2, lN cols, lV ws]) (EA.cons (EV.nm 7) (EA.cons (EV.nm 4) (EA.cons (EV.nm 6) EA.nil))) (by show 3 ≤ 100000; decide)))
theorem fn_form (W : Wd g) : FN g "_law_form" 2 (fun os M o M' => os.length = 4 ∧ Run g n_law_form s_law_form 1 os M o M') := FN.run (ps := ["row", "n", "m", "full"]) W.t_law_form c_law_form (fun _ _ _ _ _ _ us hl => match us, hl with | [_, _, _, _], _ => rfl)
/-- what is drawn is in the form -/
theorem Fm.hf {n m : Nat} {T : List (List Int)} {cols : List Nat} {ws : List Int} (F : Fm n m T cols ws) : HF (T ++ List.replicate (n - T.length) (List.replicate m 0)) m cols.length (fun i => cols.getD i 0) := by
  have at1 : ∀ i, i < T.length → ∀ j, gE (T ++ List.replicate (n - T.length) (List.replicate m 0)) i j = (T.getD i []).getD j 0 := fun i hi j => by
    unfold gE
    rw [List.getD_eq_getElem?_getD (l := T ++ _), List.getElem?_append_left hi, List.getD_eq_getElem?_getD (l := T)]
  have htl := F.tl
  have hln := F.len
  refine ⟨by rw [List.length_append, List.length_replicate]; omega, fun q hq => ?_, fun i hi => F.lt _ (mem_getD hi), fun i j hij hj => ?_, fun i hi j hj => ?_, fun i hi => ?_, fun k i hki hi => ?_, fun i hi j => ?_⟩
  · rcases List.mem_append.mp hq with h | h
    · obtain ⟨i, hi, e⟩ := List.getElem_of_mem h
      have := (F.row i (by omega)).len
      rw [List.getD_eq_getElem?_getD, List.getElem?_eq_getElem hi, e] at this
      exact this
    · rw [List.eq_of_mem_replicate h, List.length_replicate]
  · have := List.pairwise_iff_getElem.mp F.inc i j (by omega) hj hij
    rw [List.getD_eq_getElem?_getD, List.getD_eq_getElem?_getD, List.getElem?_eq_getElem hj, List.getElem?_eq_getElem (by omega : i < cols.length)]
    exact this
  · rw [at1 i (by omega)]
    exact (F.row i hi).left j hj
  · rw [at1 i (by omega), (F.row i hi).pv]
    have := F.wn _ (mem_getD (a0 := 0) (by rw [F.wl]; exact hi : i < ws.length))
    omega
  · rw [at1 k (by omega), at1 i (by omega), (F.row i hi).pv]
    exact (F.row k (by omega)).abv i hki hi
  · unfold gE
    rw [List.getD_eq_getElem?_getD (l := T ++ _), List.getElem?_append_right (by omega), List.getElem?_replicate]
    split
    · exact rep_zero
    · rfl
theorem Fm.num {n m : Nat} {T : List (List Int)} {cols : List Nat} {ws : List Int} (F : Fm n m T cols ws) : ∀ q ∈ T ++ List.replicate (n - T.length) (List.replicate m 0), ∀ x ∈ q, x.natAbs ≤ 12 := fun q hq x hx => by
  have htl := F.tl
  rcases List.mem_append.mp hq with h | h
  · obtain ⟨i, hi, e⟩ := List.getElem_of_mem h
    have := (F.row i (by omega)).num
    rw [List.getD_eq_getElem?_getD, List.getElem?_eq_getElem hi, e] at this
    exact this x hx
  · rw [List.eq_of_mem_replicate h] at hx
    rw [List.eq_of_mem_replicate hx]
    decide
end
end
section
section
variable {g : Pg}
def itn (f : List Int → List Int) (s : List Int) : Nat → List Int
  | 0 => s
  | i + 1 => f (itn f s i)
theorem r2_get {a b x : Option (List O)} (i : Nat) : (a :: b :: (List.replicate i (none : Option (List O)) ++ [x]))[i + 2]? = some x := by
  show (List.replicate i none ++ [x])[i]? = _
  rw [List.getElem?_append_right (by rw [List.length_replicate]; exact Nat.le_refl _), List.length_replicate, Nat.sub_self]
  rfl
theorem r2_set {a b x y : Option (List O)} (i : Nat) : (a :: b :: (List.replicate i (none : Option (List O)) ++ [x])).set (i + 2) y = a :: b :: (List.replicate i none ++ [y]) := by
  show a :: b :: (List.replicate i none ++ [x]).set i y = _
  rw [List.set_append_right _ _ (by rw [List.length_replicate]; exact Nat.le_refl _), List.length_replicate, Nat.sub_self]
  rfl
def L10 : List Int := [0, 0, 1, -1, 2, -3, 4, -5, 6, -9]
theorem L10_ok : ∀ x ∈ L10, x.natAbs ≤ 9 := by decide
def LT4 : List Int := [0, 1, -1, 2]
def bdW (wide : Bool) (i : Nat) : Nat := if wide then 1000000 else 9 * 2 ^ i
theorem bdW_le {wide : Bool} {i : Nat} : bdW wide i ≤ bdW wide (i + 1) := by
  unfold bdW
  cases wide
  · show 9 * 2 ^ i ≤ 9 * 2 ^ (i + 1)
    rw [Nat.pow_succ]
    omega
  · exact Nat.le_refl _
theorem bdW_mil {wide : Bool} {i : Nat} (h : i ≤ 4) : bdW wide i ≤ 1000000 := by
  unfold bdW
  cases wide
  · show 9 * 2 ^ i ≤ _
    have : 2 ^ i ≤ 2 ^ 4 := Nat.pow_le_pow_right (by decide) h
    omega
  · exact Nat.le_refl _
abbrev dwb : List Stmt := bodyOf ((defBody s_law_drawn).getD 1 (.Pass ⟨0, 0, 0, 0⟩))
theorem drawn_run (W : Wd g) {n m : Nat} {wide : Bool} (hn : 1 ≤ n ∧ n ≤ 4) (hm : 1 ≤ m ∧ m ≤ 4) (ns : List Int) : ∃ A ns', Mx A ∧ A.length = n ∧ wd A = m ∧ Run g n_law_drawn s_law_drawn 1 [.adr 0, .dat (.int (n : Int)), .dat (.int (m : Int)), .dat (.bl wide)] [rowC ns] (.dat (lM A)) [rowC ns'] := by
  have TK := ok_law_take W
  let C := mkC g n_law_drawn s_law_drawn 1
  let Fr : O → O → O → O → O → O → List O := fun a i l j k t => [.adr 0, .dat (.int (n : Int)), .dat (.int (m : Int)), .dat (.bl wide), a, i, l, j, k, t, .no]
  let Me : List Int → List (List Int) → Nat → Mem := fun k A d => rowC k :: cel A :: List.replicate d none
  have row1 : ∀ {k : List Int} {A : List (List Int)} {d : Nat}, (Me k A d)[0]? = some (rowC k) := rfl
  obtain ⟨f, f0, fI, fP⟩ := chain (S := (List Int × List (List Int)) × Nat) (n := n) (I := fun i s => s.1.2.length = i ∧ ∀ q ∈ s.1.2, q.length = m ∧ ∀ x ∈ q, x.natAbs ≤ bdW wide i)
    (P := fun i s s' => ∃ E2, Fg E2 (Fr (.adr 1) .no .no .no .no .no) ∧ SB C dwb (Fr (.adr 1) (.dat (.int (i : Int))) .no .no .no .no) (Me s.1.1 s.1.2 s.2) (.nx E2 (Me s'.1.1 s'.1.2 s'.2))) (fun i hi s hs => by
      obtain ⟨⟨k1, A⟩, d⟩ := s
      obtain ⟨h1, h2⟩ := hs
      simp only at h1 h2
      -- the end of a turn
      have tail : ∀ (k : List Int) (d : Nat) (jo : O) (r : List Int), r.length = m → (∀ x ∈ r, x.natAbs ≤ bdW wide i) → ∃ k' r', r'.length = m ∧ (∀ x ∈ r', x.natAbs ≤ bdW wide (i + 1)) ∧ ∃ ko to', SB C (dwb.drop 2) (Fr (.adr 1) (.dat (.int (i : Int))) (.dat (lV r)) jo .no .no) (Me k A d) (.nx (Fr (.adr 1) (.dat (.int (i : Int))) (.dat (lV r')) jo ko to') (Me k' (A ++ [r']) d)) := fun k d jo r r1 r2 => by
        have app : ∀ {k : List Int} {r : List Int} {ko to' : O}, SB C (dwb.drop 3) (Fr (.adr 1) (.dat (.int (i : Int))) (.dat (lV r)) jo ko to') (Me k A d) (.nx (Fr (.adr 1) (.dat (.int (i : Int))) (.dat (lV r)) jo ko to') (Me k (A ++ [r]) d)) := fun {k r ko to'} => by
          refine SB.one (ST.to (ST.exp (EV.append (n := 1) (ps := (A.map lV).map O.dat) (EV.nm 4) (EV.nm 6) rfl rfl (by rw [List.length_map, List.length_map]; omega))) ?_)
          show Out.nx _ (rowC k :: some (_ ++ [O.dat (lV r)]) :: List.replicate d none) = Out.nx _ (rowC k :: some (((A ++ [r]).map lV).map O.dat) :: List.replicate d none)
          rw [List.map_append, List.map_append]
          rfl
        have r3 : ∀ x ∈ r, x.natAbs ≤ bdW wide (i + 1) := fun x hx => Nat.le_trans (r2 x hx) bdW_le
        by_cases hi0 : i = 0
        · exact ⟨k, r, r1, r3, .no, .no, SB.cons (ST.no (M1 := Me k A d) (ET.to (EW.et (EW.and (k1 := false) (k2 := true) (ET.to (ET.cm (EV.nm 5) EV.int CS.gtI) (decide_eq_false (by omega))) (fun z => nomatch z) (fun _ => rfl))) rfl) SB.nil) app⟩
        · by_cases ht : tk k 4 = 0
          · have p1 := tk_pos (ns := dl 1 k) (b := (i : Int)) (by omega)
            obtain ⟨kk, ekk⟩ : ∃ x : Nat, tk (dl 1 k) (i : Int) = (x : Int) := ⟨(tk (dl 1 k) (i : Int)).toNat, by omega⟩
            have hkk : kk < A.length := by omega
            have hq := h2 _ (mem_getD hkk : A.getD kk [] ∈ A)
            have p2 := tk_pos (ns := dl 2 k) (b := 4 - (if wide = true then 1 else 0)) (by cases wide <;> decide)
            generalize htt : pick LT4 (tk (dl 2 k) (4 - (if wide = true then 1 else 0))) = t
            have hpl : 0 ≤ tk (dl 2 k) (4 - (if wide = true then 1 else 0)) ∧ tk (dl 2 k) (4 - (if wide = true then 1 else 0)) < LT4.length := ⟨p2.1, by
              have := p2.2
              show _ < (4 : Int)
              cases wide <;> simp at this ⊢ <;> omega⟩
            have htb : t.natAbs ≤ 2 ∧ (wide = true → t.natAbs ≤ 1) := by
              have a1 : ∀ x ∈ LT4, x.natAbs ≤ 2 := by decide
              refine ⟨by rw [← htt]; exact a1 _ (pick_mem hpl), fun hw => ?_⟩
              subst hw
              have p3 : 0 ≤ tk (dl 2 k) 3 ∧ tk (dl 2 k) 3 < 3 := p2
              have a2 : ∀ x : Int, 0 ≤ x ∧ x < 3 → (pick LT4 x).natAbs ≤ 1 := fun x hx => by
                have : x = 0 ∨ x = 1 ∨ x = 2 := by omega
                rcases this with rfl | rfl | rfl <;> decide
              rw [← htt]
              exact a2 _ p3
            have hz2 : ∀ x ∈ A.getD kk [], x.natAbs ≤ 1000000 := fun x hx => Nat.le_trans (hq.2 x hx) (bdW_mil (by omega))
            refine ⟨dl 3 k, (A.getD kk []).map fun x => t * x, by rw [List.length_map]; exact hq.1, fun x hx => ?_, .dat (.int (kk : Int)), .dat (.int t), SB.cons (E1 := Fr (.adr 1) (.dat (.int (i : Int))) (.dat (lV ((A.getD kk []).map fun x => t * x))) jo (.dat (.int (kk : Int))) (.dat (.int t))) (M1 := Me (dl 3 k) A d) (ST.yes (ET.to (EW.et (EW.and (k1 := true) (k2 := true) (ET.to (ET.cm (EV.nm 5) EV.int CS.gtI) (decide_eq_true (by omega))) (fun _ => EW.and1 (ET.to (ET.cm (ev_tk (ns := k) TK (EV.nm 0) EV.int rfl (by decide)) EV.int CS.eqI) (decide_eq_true ht))) (fun z => nomatch z))) rfl) (SB.cons (E1 := Fr (.adr 1) (.dat (.int (i : Int))) (.dat (lV r)) jo (.dat (.int (kk : Int))) .no) (M1 := Me (dl 2 k) A d) (ST.set 8 (EV.to (ev_tk (ns := dl 1 k) (j := (i : Int)) TK (EV.nm 0) (EV.nm 5) rfl (by omega)) (by rw [ekk])) c_law_drawn.nd) (SB.cons (E1 := Fr (.adr 1) (.dat (.int (i : Int))) (.dat (lV r)) jo (.dat (.int (kk : Int))) (.dat (.int t))) (M1 := Me (dl 3 k) A d) (ST.set 9 (EV.to (EV.ix (EV.lst (ds := LT4.map D.int) (EA.cons EV.int (EA.cons EV.int (EA.cons (EV.neg EV.int) (EA.cons EV.int EA.nil)))) (by decide)) (ev_tk (ns := dl 2 k) (j := 4 - (if wide = true then 1 else 0)) TK (EV.nm 0) (EV.sub EV.int (EV.intB (EV.nm 3) W.b.int)) rfl (by cases wide <;> decide)) (pick_at hpl)) (by rw [htt])) c_law_drawn.nd) (SB.one (ST.to (LC.set 6 (LC.lM 10 (xs := A.getD kk []) (f := D.int) (g := fun x => .int (t * x)) (own := [("x", 10)]) (by rfl) c_law_drawn.nd rfl (EV.ixC (EV.nm 4) (EV.nm 8) rfl (cel_at hkk)) rfl (Nat.le_refl _) OkM.refl (by omega) (fun x hx M => EV.mul (EV.nm 9) (EV.nm 10) (mul_okL (by omega)))) rfl rfl (fun env he => sw_true (by rw [he]; rfl) (by rw [he]; rfl) (by rfl) (by rfl))) ?_))))) app⟩
            · obtain ⟨y, hy, rfl⟩ := List.mem_map.mp hx
              have hb := hq.2 y hy
              rw [Int.natAbs_mul]
              unfold bdW at hb ⊢
              cases wide with
              | false =>
                show t.natAbs * y.natAbs ≤ 9 * 2 ^ (i + 1)
                have hb' : y.natAbs ≤ 9 * 2 ^ i := hb
                calc t.natAbs * y.natAbs ≤ 2 * (9 * 2 ^ i) := Nat.mul_le_mul htb.1 hb'
                  _ = 9 * 2 ^ (i + 1) := by rw [Nat.pow_succ]; omega
              | true =>
                show t.natAbs * y.natAbs ≤ 1000000
                have hb' : y.natAbs ≤ 1000000 := hb
                calc t.natAbs * y.natAbs ≤ 1 * 1000000 := Nat.mul_le_mul (htb.2 rfl) hb'
                  _ = 1000000 := rfl
            · rw [lV_map]
              rfl
          · exact ⟨dl 1 k, r, r1, r3, .no, .no, SB.cons (ST.no (M1 := Me (dl 1 k) A d) (ET.to (EW.et (EW.and (k1 := true) (k2 := false) (ET.to (ET.cm (EV.nm 5) EV.int CS.gtI) (decide_eq_true (by omega))) (fun _ => EW.and1 (ET.to (ET.cm (ev_tk (ns := k) TK (EV.nm 0) EV.int rfl (by decide)) EV.int CS.eqI) (decide_eq_false ht))) (fun z => nomatch z))) rfl) SB.nil) app⟩
      have finish : ∀ {r : List Int} {k2 : List Int} {d2 : Nat} {jo : O}, r.length = m → (∀ x ∈ r, x.natAbs ≤ bdW wide i) → SB C dwb (Fr (.adr 1) (.dat (.int (i : Int))) .no .no .no .no) (Me k1 A d) (.nx (Fr (.adr 1) (.dat (.int (i : Int))) (.dat (lV r)) jo .no .no) (Me k2 A d2)) → True := fun _ _ _ => True.intro
      have hrow : ∀ {q : List Int}, (∀ x ∈ q, x.natAbs ≤ bdW wide i) → ∀ x ∈ q, x.natAbs ≤ bdW wide (i + 1) := fun h x hx => Nat.le_trans (h x hx) bdW_le
      have close : ∀ (k' r' : List Int) (d' : Nat) (jo ko to' : O), r'.length = m → (∀ x ∈ r', x.natAbs ≤ bdW wide (i + 1)) → SB C dwb (Fr (.adr 1) (.dat (.int (i : Int))) .no .no .no .no) (Me k1 A d) (.nx (Fr (.adr 1) (.dat (.int (i : Int))) (.dat (lV r')) jo ko to') (Me k' (A ++ [r']) d')) → ∃ s' : (List Int × List (List Int)) × Nat, (∃ E2, Fg E2 (Fr (.adr 1) .no .no .no .no .no) ∧ SB C dwb (Fr (.adr 1) (.dat (.int (i : Int))) .no .no .no .no) (Me k1 A d) (.nx E2 (Me s'.1.1 s'.1.2 s'.2))) ∧ s'.1.2.length = i + 1 ∧ ∀ q ∈ s'.1.2, q.length = m ∧ ∀ x ∈ q, x.natAbs ≤ bdW wide (i + 1) := fun k' r' d' jo ko to' r1 r2 hsb => by
        refine ⟨((k', A ++ [r']), d'), ⟨_, ?_, hsb⟩, by rw [List.length_append, h1]; rfl, fun q hq => ?_⟩
        · exact Fg.cons (Fg.cons (Fg.cons (Fg.cons (Fg.cons (Fg.no (Fg.no (Fg.no (Fg.no (Fg.no (Fg.cons Fg.nil))))))))))
        · rcases List.mem_append.mp hq with hq | hq
          · exact ⟨(h2 q hq).1, hrow (h2 q hq).2⟩
          · rw [List.mem_singleton.mp hq]
            exact ⟨r1, r2⟩
      have lm : ∀ {q : Nat → Int}, (((List.range m).map fun t => D.int (q t)).map O.dat) = (((List.range m).map q).map D.int).map O.dat := fun {q} => by
        rw [List.map_map, List.map_map, List.map_map]
        rfl
      let r0 : List Int := (List.range m).map fun t => pick L10 (tk (dl t k1) 10)
      have first : ∀ {rest : List Stmt} {r : Out}, SB C rest (Fr (.adr 1) (.dat (.int (i : Int))) (.dat (lV r0)) .no .no .no) (Me (dl m k1) A d) r → SB C (dwb.getD 0 (.Pass ⟨0, 0, 0, 0⟩) :: rest) (Fr (.adr 1) (.dat (.int (i : Int))) .no .no .no .no) (Me k1 A d) r := fun {rest r} h => by
        refine SB.cons (E1 := Fr (.adr 1) (.dat (.int (i : Int))) (.dat (lV r0)) .no .no .no) (M1 := Me (dl m k1) A d) (ST.to (LC.set 6 (LC.lRS 7 (j := ((m : Nat) : Int)) (M1 := Me k1 A d) (v := fun t => .int (pick L10 (tk (dl t k1) 10))) (M_ := fun t => Me (dl t k1) A d) (own := [("j", 7)]) (by rfl) c_law_drawn.nd rfl (EV.nm 2) W.b.range rfl (fun _ _ => rfl) (Nat.le_refl _) (OkM.dat OkM.refl) (by omega) (fun t ht c => EV.ix (EV.lst (ds := L10.map D.int) (EA.cons EV.int (EA.cons EV.int (EA.cons EV.int (EA.cons (EV.neg EV.int) (EA.cons EV.int (EA.cons (EV.neg EV.int) (EA.cons EV.int (EA.cons (EV.neg EV.int) (EA.cons EV.int (EA.cons (EV.neg EV.int) EA.nil)))))))))) (by decide)) (ev_tk (ns := dl t k1) TK (EV.nm 0) EV.int rfl (by decide)) (pick_at (tk_pos (by decide))))) rfl rfl (fun env he => sw_true (by rw [he]; rfl) (by rw [he]; rfl) (by rfl) (by rfl))) ?_) h
        rw [Int.toNat_natCast, lV_map]
        rfl
      cases hw : wide with
      | false =>
        subst hw
        have r1 : r0.length = m := by show (List.map _ _).length = _; rw [List.length_map, List.length_range]
        have r2 : ∀ x ∈ r0, x.natAbs ≤ bdW false i := fun x hx => by
          obtain ⟨t, _, rfl⟩ := List.mem_map.mp hx
          have := L10_ok _ (pick_mem (L := L10) (tk_pos (ns := dl t k1) (b := 10) (by decide)))
          refine Nat.le_trans this ?_
          show 9 ≤ 9 * 2 ^ i
          have : 0 < 2 ^ i := Nat.pow_pos (by decide)
          omega
        obtain ⟨k', r', q1, q2, ko, to', q3⟩ := tail (dl m k1) d .no r0 r1 r2
        exact close k' r' d .no ko to' q1 q2 (first (SB.cons (ST.no (M1 := Me (dl m k1) A d) (ET.val (EV.nm 3)) SB.nil) q3))
      | true =>
        subst hw
        let k2 := dl m k1
        let q : Nat → Int := fun t => (tk (itn (dl 3) k2 t) 1000 * 1000 + tk (dl 1 (itn (dl 3) k2 t)) 1000) * (2 * tk (dl 2 (itn (dl 3) k2 t)) 2 - 1)
        let r : List Int := (List.range m).map q
        have rl : r.length = m := by show (List.map _ _).length = _; rw [List.length_map, List.length_range]
        have rb : ∀ x ∈ r, x.natAbs ≤ 1000000 := fun x hx => by
          obtain ⟨t, _, rfl⟩ := List.mem_map.mp hx
          have a1 := tk_pos (ns := itn (dl 3) k2 t) (b := 1000) (by decide)
          have a2 := tk_pos (ns := dl 1 (itn (dl 3) k2 t)) (b := 1000) (by decide)
          have a3 := tk_pos (ns := dl 2 (itn (dl 3) k2 t)) (b := 2) (by decide)
          show (_ * _ : Int).natAbs ≤ _
          rw [Int.natAbs_mul]
          have a4 : (2 * tk (dl 2 (itn (dl 3) k2 t)) 2 - 1).natAbs = 1 := by omega
          rw [a4]
          omega
        let k3 := itn (dl 3) k2 m
        let Ml : List Int → List Int → Mem := fun k v => rowC k :: cel A :: (List.replicate d none ++ [rowC v])
        have pj := tk_pos (ns := k3) (b := (m : Int)) (by omega)
        obtain ⟨kj, ekj⟩ : ∃ x : Nat, tk k3 (m : Int) = (x : Int) := ⟨(tk k3 (m : Int)).toNat, by omega⟩
        have hkj : kj < m := by omega
        have p4 := tk_pos (ns := dl 1 k3) (b := 4) (by decide)
        let L4 : List Int := [1000000, -1000000, r.getD kj 0, 0]
        have hx : (pick L4 (tk (dl 1 k3) 4)).natAbs ≤ 1000000 := by
          have : ∀ x ∈ L4, x.natAbs ≤ 1000000 := fun x hx => by
            simp only [L4, List.mem_cons, List.not_mem_nil, or_false] at hx
            rcases hx with rfl | rfl | rfl | rfl
            · decide
            · decide
            · exact rb _ (mem_getD (by omega))
            · decide
          exact this _ (pick_mem (by exact p4))
        let r2 := r.set kj (pick L4 (tk (dl 1 k3) 4))
        have r2l : r2.length = m := by show (List.set _ _ _).length = _; rw [List.length_set, rl]
        have r2b : ∀ x ∈ r2, x.natAbs ≤ bdW true i := fun x hx' => by
          rcases List.mem_or_eq_of_mem_set hx' with h | rfl
          · exact rb x h
          · exact hx
        obtain ⟨k', r', q1, q2, ko, to', q3⟩ := tail (dl 2 k3) (d + 1) (.dat (.int (kj : Int))) r2 r2l r2b
        refine close k' r' (d + 1) _ ko to' q1 q2 (first (SB.cons (ST.yes (M1 := Me k2 A d) (ET.val (EV.nm 3)) ?_) q3))
        refine SB.cons (E1 := Fr (.adr 1) (.dat (.int (i : Int))) (.adr (d + 2)) .no .no .no) (M1 := Ml k3 r) (ST.to (LC.set 6 (LC.lRSC 7 (j := ((m : Nat) : Int)) (M1 := Me k2 A d) (v := fun t => .int (q t)) (M_ := fun t => Me (itn (dl 3) k2 t) A d) (own := [("j", 7)]) (by rfl) c_law_drawn.nd rfl (EV.nm 2) W.b.range rfl (fun _ _ => rfl) (by omega) (fun t ht c => EV.mul (EV.add (EV.mul (ev_tk (ns := itn (dl 3) k2 t) TK (EV.nm 0) EV.int rfl (by decide)) EV.int (mul_okR (by decide))) (ev_tk (ns := dl 1 (itn (dl 3) k2 t)) TK (EV.nm 0) EV.int rfl (by decide))) (EV.sub (EV.mul EV.int (ev_tk (ns := dl 2 (itn (dl 3) k2 t)) TK (EV.nm 0) EV.int rfl (by decide)) (mul_okL (by decide))) EV.int) (mul_okR (by have := tk_pos (ns := dl 2 (itn (dl 3) k2 t)) (b := 2) (by decide); omega)))) rfl rfl (fun env he => sw_true (by rw [he]; rfl) (by rw [he]; rfl) (by rfl) (by rfl))) ?_) ?_
        · rw [Int.toNat_natCast, lm]
          show Out.nx (Fr (.adr 1) _ (.adr ((List.replicate d none).length + 2)) _ _ _) _ = _
          rw [List.length_replicate]
          rfl
        refine SB.cons (E1 := Fr (.adr 1) (.dat (.int (i : Int))) (.adr (d + 2)) (.dat (.int (kj : Int))) .no .no) (M1 := Ml (dl 1 k3) r) (ST.set 7 (EV.to (ev_tk (ns := k3) (j := (m : Int)) TK (EV.nm 0) (EV.nm 2) rfl (by omega)) (by rw [ekj])) c_law_drawn.nd) ?_
        refine SB.cons (E1 := Fr (.adr 1) (.dat (.int (i : Int))) (.adr (d + 2)) (.dat (.int (kj : Int))) .no .no) (M1 := Ml (dl 2 k3) r2) (ST.to (ST.asg (M1 := Ml (dl 2 k3) r) (o := .dat (.int (pick L4 (tk (dl 1 k3) 4)))) (EV.ix (EV.lst (ds := L4.map D.int) (EA.cons EV.int (EA.cons (EV.neg EV.int) (EA.cons (EV.ixC (n := d + 2) (EV.nm 6) (EV.nm 7) (r2_get d) (row_at (by omega))) (EA.cons EV.int EA.nil)))) (by show 4 ≤ 100000; decide)) (ev_tk (ns := dl 1 k3) TK (EV.nm 0) EV.int rfl (by decide)) (pick_at (by exact p4))) (EG.sub (n := d + 2) (jj := kj) (ps := (r.map D.int).map O.dat) (EV.nm 6) (EV.nm 7) (r2_get d) (by rw [row_len, rl]; exact ixN_of hkj))) ?_) ?_
        · show Out.nx _ ((Ml (dl 2 k3) r).set (d + 2) _) = _
          rw [r2_set, row_set]
        refine SB.fz (jj := 6) (nn := d + 2) (ds := r2.map D.int) rfl (r2_get d) ?_
        rw [r2_set, ← List.replicate_succ']
        exact SB.nil) ((ns, []), 0) ⟨rfl, fun q hq => by simp at hq⟩
  obtain ⟨a1, a2⟩ := fI n (Nat.le_refl n)
  have hne : (f n).1.2 ≠ [] := fun e => by
    rw [e] at a1
    have : 0 = n := a1
    omega
  have hwd : wd (f n).1.2 = m := by
    generalize (f n).1.2 = A at hne a2
    cases A with
    | nil => exact absurd rfl hne
    | cons q l => exact (a2 q List.mem_cons_self).1
  refine ⟨(f n).1.2, (f n).1.1, ⟨by omega, by omega, by omega, by omega, fun q hq => by rw [hwd]; exact (a2 q hq).1, fun q hq x hx => ?_⟩, a1, hwd, Nat.le_refl _, True.intro, lowR, none :: List.replicate (f n).2 none, ?_⟩
  · have := (a2 q hq).2 x hx
    have := bdW_mil (wide := wide) hn.2
    omega
  · refine SB.cons (E1 := Fr (.adr 1) .no .no .no .no .no) (M1 := Me ns [] 0) (ST.set 4 (EV.cel EA.nil (by decide)) c_law_drawn.nd) (SB.cons (E1 := Fr (.adr 1) .no .no .no .no .no) (M1 := Me (f n).1.1 (f n).1.2 (f n).2) (ST.to (ST.forN 5 (n := ((n : Nat) : Int).toNat) (E_ := fun _ => Fr (.adr 1) .no .no .no .no .no) (M_ := fun i => Me (f i).1.1 (f i).1.2 (f i).2) (EI.rng1 (EV.nm 1) W.b.range (by omega)) Fg.refl (by rw [f0]) (fun _ _ => True.intro) c_law_drawn.nd (fun i hi => by rw [atI0_eq]; exact fP i (by omega))) (by rw [Int.toNat_natCast])) ?_)
    exact SB.fz (jj := 4) (nn := 1) (ds := (f n).1.2.map lV) rfl rfl (SB.one (ST.ret (EV.nm 4)))
theorem fn_drawn (W : Wd g) : FN g "_law_drawn" 2 (fun os M o M' => os.length = 4 ∧ Run g n_law_drawn s_law_drawn 1 os M o M') := FN.run (ps := ["row", "n", "m", "wide"]) W.t_law_drawn c_law_drawn (fun _ _ _ _ _ _ us hl => match us, hl with | [_, _, _, _], _ => rfl)
end
end
section
section
/-! ### is_hermite and the law's look -/
def LkP (m : List (List Int)) : Prop := ∀ i, i < m.length → (hd m i = wd m → ∀ k, i ≤ k → k < m.length → hd m k = wd m) ∧ (hd m i < wd m → 0 < gE m i (hd m i) ∧ ∀ k, k < i → hd m k < hd m i ∧ 0 ≤ gE m k (hd m i) ∧ gE m k (hd m i) < gE m i (hd m i))
theorem hd_some {m : List (List Int)} {i p : Nat} (hi : i < m.length) (h : leadF (m.getD i []) = some p) : hd m i = p := by
  rw [hd_eq hi]
  unfold headF
  rw [h]
theorem hd_none {m : List (List Int)} {i : Nat} (hw : ∀ q ∈ m, q.length = wd m) (hi : i < m.length) (h : leadF (m.getD i []) = none) : hd m i = wd m := by
  rw [hd_eq hi]
  unfold headF
  rw [h]
  exact hw _ (mem_getD hi)
theorem hd_or {m : List (List Int)} {i : Nat} (hw : ∀ q ∈ m, q.length = wd m) (hi : i < m.length) : (leadF (m.getD i []) = none ∧ hd m i = wd m) ∨ (leadF (m.getD i []) = some (hd m i) ∧ hd m i < wd m) := by
  cases h : leadF (m.getD i []) with
  | none => exact .inl ⟨rfl, hd_none hw hi h⟩
  | some p =>
    rw [hd_some hi h]
    refine .inr ⟨rfl, ?_⟩
    have := (leadF_lt h).1
    rwa [hw _ (mem_getD hi)] at this
theorem lk_none {m : List (List Int)} {i : Nat} (hw : ∀ q ∈ m, q.length = wd m) (hi : i < m.length) : lkStat m i = none ↔ hd m i < wd m ∧ 0 < gE m i (hd m i) ∧ ∀ k, k < i → hd m k < hd m i ∧ 0 ≤ gE m k (hd m i) ∧ gE m k (hd m i) < gE m i (hd m i) := by
  have hle : hd m i ≤ wd m := by rcases hd_or hw hi with h | h <;> omega
  unfold lkStat
  by_cases h1 : hd m i = wd m
  · rw [if_pos h1]
    constructor
    · intro z; cases z
    · rintro ⟨z, _⟩; omega
  · rw [if_neg h1]
    by_cases h2 : gE m i (hd m i) ≤ 0
    · rw [if_pos h2]
      constructor
      · intro z; cases z
      · rintro ⟨_, z, _⟩; omega
    · rw [if_neg h2]
      by_cases h3 : (List.range i).all (lkAbv m i) = true
      · rw [if_pos h3]
        refine ⟨fun _ => ⟨by omega, by omega, fun k hk => ?_⟩, fun _ => rfl⟩
        have := List.all_eq_true.mp h3 k (List.mem_range.mpr hk)
        unfold lkAbv at this
        simp only [Bool.not_eq_true', Bool.or_eq_false_iff, Bool.not_eq_false', decide_eq_false_iff_not, Bool.and_eq_true, decide_eq_true_eq] at this
        exact ⟨by omega, this.2.1, this.2.2⟩
      · rw [if_neg h3]
        constructor
        · intro z; cases z
        · rintro ⟨_, _, z⟩
          refine absurd (List.all_eq_true.mpr fun k hk => ?_) h3
          have := z k (List.mem_range.mp hk)
          unfold lkAbv
          simp only [Bool.not_eq_true', Bool.or_eq_false_iff, Bool.not_eq_false', decide_eq_false_iff_not, Bool.and_eq_true, decide_eq_true_eq]
          exact ⟨by omega, this.2.1, this.2.2⟩
theorem lk_true {m : List (List Int)} {i : Nat} : lkStat m i = some true ↔ hd m i = wd m ∧ ∀ k, i ≤ k → k < m.length → hd m k = wd m := by
  unfold lkStat
  by_cases h1 : hd m i = wd m
  · rw [if_pos h1]
    constructor
    · intro h
      have h2 := List.all_eq_true.mp (Option.some.inj h)
      refine ⟨h1, fun k hk hk2 => ?_⟩
      have := h2 (k - i) (List.mem_range.mpr (by omega))
      rw [show i + (k - i) = k by omega] at this
      exact of_decide_eq_true this
    · rintro ⟨_, h⟩
      rw [List.all_eq_true.mpr fun k hk => decide_eq_true (h (i + k) (by omega) (by have := List.mem_range.mp hk; omega))]
  · rw [if_neg h1]
    constructor
    · intro h
      by_cases h2 : gE m i (hd m i) ≤ 0
      · rw [if_pos h2] at h; cases h
      · rw [if_neg h2] at h
        by_cases h3 : (List.range i).all (lkAbv m i) = true
        · rw [if_pos h3] at h; cases h
        · rw [if_neg h3] at h; cases h
    · rintro ⟨h, _⟩; exact absurd h h1
theorem looks_iff {m : List (List Int)} (hw : ∀ q ∈ m, q.length = wd m) : looksB m = true ↔ LkP m := by
  constructor
  · intro h
    by_cases hall : ∀ i, i < m.length → lkStat m i = none
    · intro i hi
      have := (lk_none hw hi).mp (hall i hi)
      exact ⟨fun z => by omega, fun _ => this.2⟩
    · have hex : ∃ i, i < m.length ∧ lkStat m i ≠ none := Classical.byContradiction fun z => hall fun i hi => Classical.byContradiction fun z2 => z ⟨i, hi, z2⟩
      obtain ⟨i, hi, hne⟩ := hex
      obtain ⟨k, _, ⟨hk, hkn⟩, hmin⟩ := least (P := fun j => j < m.length ∧ lkStat m j ≠ none) i ⟨hi, hne⟩
      have hj : ∀ j, j < k → lkStat m j = none := fun j hjk => Classical.byContradiction fun z => hmin j hjk ⟨by omega, z⟩
      obtain ⟨b, hb⟩ : ∃ b, lkStat m k = some b := Option.ne_none_iff_exists'.mp hkn
      have hfs := findSome_first hk hb hj
      unfold looksB at h
      rw [hfs] at h
      have : b = true := h
      subst this
      have hk2 := lk_true.mp hb
      intro j hjn
      by_cases hjk : j < k
      · have := (lk_none hw hjn).mp (hj j hjk)
        exact ⟨fun z => by omega, fun _ => this.2⟩
      · have := hk2.2 j (by omega) hjn
        exact ⟨fun _ l hl hl2 => hk2.2 l (by omega) hl2, fun z => by omega⟩
  · intro h
    unfold looksB
    cases hs : (List.range m.length).findSome? (lkStat m) with
    | none => rfl
    | some b =>
      obtain ⟨i, hi, hb⟩ := List.exists_of_findSome?_eq_some hs
      rw [List.mem_range] at hi
      show b = true
      obtain ⟨p1, p2⟩ := h i hi
      rcases hd_or hw hi with ⟨_, q⟩ | ⟨_, q⟩
      · rw [lk_true.mpr ⟨q, p1 q⟩] at hb
        exact (Option.some.inj hb).symm
      · rw [(lk_none hw hi).mpr ⟨q, p2 q⟩] at hb
        cases hb
theorem ech_iff {m : List (List Int)} (hw : ∀ q ∈ m, q.length = wd m) : echB m = true ↔ ∀ i, i + 1 < m.length → hd m (i + 1) = wd m ∨ hd m i < hd m (i + 1) := by
  have key : ∀ i, i < m.length → (stp (lasts m i) (m.getD i [])).isSome = true → lasts m (i + 1) = (hd m i : Int) := fun i hi hs => by
    show (stp (lasts m i) (m.getD i [])).getD 0 = _
    unfold stp at hs ⊢
    rcases hd_or hw hi with ⟨q1, q2⟩ | ⟨q1, q2⟩
    · rw [q1, q2]
      show ((m.getD i []).length : Int) = _
      rw [hw _ (mem_getD hi)]
    · rw [q1] at hs ⊢
      by_cases hp : ((hd m i : Nat) : Int) ≤ lasts m i
      · simp only [if_pos hp] at hs
        cases hs
      · simp only [if_neg hp]
        rfl
  have some_iff : ∀ i, i + 1 < m.length → lasts m (i + 1) = (hd m i : Int) → ((stp (lasts m (i + 1)) (m.getD (i + 1) [])).isSome = true ↔ hd m (i + 1) = wd m ∨ hd m i < hd m (i + 1)) := fun i hi hl => by
    rw [hl]
    unfold stp
    rcases hd_or hw hi with ⟨q1, q2⟩ | ⟨q1, q2⟩
    · rw [q1]
      exact ⟨fun _ => .inl q2, fun _ => rfl⟩
    · rw [q1]
      by_cases hp : ((hd m (i + 1) : Nat) : Int) ≤ (hd m i : Int)
      · simp only [if_pos hp]
        constructor
        · intro z; cases z
        · rintro (z | z) <;> omega
      · simp only [if_neg hp]
        exact ⟨fun _ => .inr (by omega), fun _ => rfl⟩
  unfold echB
  rw [List.all_eq_true]
  constructor
  · intro h i hi
    have h1 := h i (List.mem_range.mpr (by omega))
    have h2 := h (i + 1) (List.mem_range.mpr hi)
    exact (some_iff i hi (key i (by omega) h1)).mp h2
  · intro h
    have all : ∀ i, i < m.length → (stp (lasts m i) (m.getD i [])).isSome = true := fun i => by
      induction i with
      | zero =>
        intro hi
        unfold stp
        cases leadF (m.getD 0 []) with
        | none => rfl
        | some p =>
          have : ¬ ((p : Int) ≤ lasts m 0) := by show ¬ (p : Int) ≤ -1; omega
          simp only [if_neg this]
          rfl
      | succ i ih =>
        intro hi
        exact (some_iff i hi (key i (by omega) (ih (by omega)))).mpr (h i hi)
    intro i hi
    exact all i (List.mem_range.mp hi)
theorem in_iff {m : List (List Int)} (hw : ∀ q ∈ m, q.length = wd m) : inB m = true ↔ LkP m := by
  unfold inB
  rw [Bool.and_eq_true, ech_iff hw, List.all_eq_true]
  have inr : ∀ i, i < m.length → hd m i < wd m → (inR m i = true ↔ 0 ≤ gE m i (hd m i) ∧ ∀ k, k < i → 0 ≤ gE m k (hd m i) ∧ gE m k (hd m i) < gE m i (hd m i)) := fun i hi hlt => by
    rcases hd_or hw hi with ⟨q1, q2⟩ | ⟨q1, q2⟩
    · omega
    · unfold inR
      rw [q1]
      show (!(decide (gE m i (hd m i) < 0) || !(m.take i).all fun q => decide (0 ≤ q.getD (hd m i) 0) && decide (q.getD (hd m i) 0 < gE m i (hd m i)))) = true ↔ _
      rw [Bool.not_eq_true', Bool.or_eq_false_iff, Bool.not_eq_false', decide_eq_false_iff_not, List.all_eq_true]
      have e : (∀ q ∈ m.take i, (decide (0 ≤ q.getD (hd m i) 0) && decide (q.getD (hd m i) 0 < gE m i (hd m i))) = true) ↔ ∀ k, k < i → 0 ≤ gE m k (hd m i) ∧ gE m k (hd m i) < gE m i (hd m i) := by
        constructor
        · intro h k hk
          have hmem : m.getD k [] ∈ m.take i := by
            rw [List.getD_eq_getElem?_getD, List.getElem?_eq_getElem (by omega : k < m.length)]
            exact List.mem_take_iff_getElem.mpr ⟨k, by omega, rfl⟩
          have := h _ hmem
          simpa [gE] using this
        · intro h q hq
          obtain ⟨k, hk, rfl⟩ := List.mem_take_iff_getElem.mp hq
          have hkm : k < m.length := by omega
          have := h k (by omega)
          unfold gE at this
          rw [List.getD_eq_getElem?_getD (l := m) (i := k), List.getElem?_eq_getElem hkm] at this
          have h2 : 0 ≤ (m[k]).getD (hd m i) 0 ∧ (m[k]).getD (hd m i) 0 < gE m i (hd m i) := this
          rw [decide_eq_true h2.1, decide_eq_true h2.2]
          rfl
      rw [e]
      constructor
      · rintro ⟨a, b⟩; exact ⟨by omega, b⟩
      · rintro ⟨a, b⟩; exact ⟨by omega, b⟩
  constructor
  · rintro ⟨h1, h2⟩
    have mono : ∀ d i, i + d + 1 < m.length → hd m (i + d + 1) = wd m ∨ hd m i < hd m (i + d + 1) := fun d => by
      induction d with
      | zero => exact fun i hi => h1 i hi
      | succ d ih =>
        intro i hi
        have a1 := ih i (by omega)
        have a2 := h1 (i + d + 1) (by omega)
        rw [show i + (d + 1) + 1 = i + d + 1 + 1 by omega]
        have a3 := hd_or hw (i := i + d + 1 + 1) (by omega)
        rcases a2 with a2 | a2
        · exact .inl a2
        · rcases a1 with a1 | a1
          · rcases a3 with ⟨_, a3⟩ | ⟨_, a3⟩
            · exact .inl a3
            · omega
          · exact .inr (by omega)
    have mono2 : ∀ i j, i < j → j < m.length → hd m j = wd m ∨ hd m i < hd m j := fun i j hij hj => by
      have := mono (j - i - 1) i (by omega)
      rwa [show i + (j - i - 1) + 1 = j by omega] at this
    intro i hi
    refine ⟨fun hz k hk hk2 => ?_, fun hlt => ?_⟩
    · by_cases he : i = k
      · rw [← he]; exact hz
      · rcases mono2 i k (by omega) hk2 with h | h
        · exact h
        · rcases hd_or hw hk2 with ⟨_, q⟩ | ⟨_, q⟩ <;> omega
    · have h3 := (inr i hi hlt).mp (h2 i (List.mem_range.mpr hi))
      have hne : gE m i (hd m i) ≠ 0 := by
        rcases hd_or hw hi with ⟨_, q⟩ | ⟨q1, _⟩
        · omega
        · exact (leadF_lt q1).2.1
      refine ⟨by omega, fun k hk => ⟨?_, h3.2 k hk⟩⟩
      rcases mono2 k i hk hi with h | h <;> omega
  · intro h
    refine ⟨fun i hi => ?_, fun i hi => ?_⟩
    · rcases hd_or hw hi with ⟨_, q⟩ | ⟨_, q⟩
      · exact .inl q
      · exact .inr (((h (i + 1) hi).2 q).2 i (by omega)).1
    · rw [List.mem_range] at hi
      rcases hd_or hw hi with ⟨q1, q⟩ | ⟨_, q⟩
      · unfold inR
        rw [q1]
      · have h3 := (h i hi).2 q
        exact (inr i hi q).mpr ⟨by omega, fun k hk => (h3.2 k hk).2⟩
theorem in_looks {m : List (List Int)} (hw : ∀ q ∈ m, q.length = wd m) : inB m = looksB m := by
  rw [Bool.eq_iff_iff, in_iff hw, looks_iff hw]
/-! ### what else is told of the result -/
theorem nzR_some {v : List Int} {p : Nat} (h : leadF v = some p) : nzR v = true := by
  obtain ⟨h1, h2, _⟩ := leadF_lt h
  unfold nzR
  rw [List.any_eq_true]
  exact ⟨_, mem_getD h1, by simpa using h2⟩
theorem nzR_none {v : List Int} (h : leadF v = none) : nzR v = false := by
  unfold nzR
  rw [List.any_eq_false]
  intro x hx
  obtain ⟨j, hj, e⟩ := List.getElem_of_mem hx
  have := leadF_none h j
  rw [List.getD_eq_getElem?_getD, List.getElem?_eq_getElem hj, e] at this
  have : x = 0 := this
  simp [this]
theorem HF.nzs {h : List (List Int)} {w r : Nat} {pc : Nat → Nat} (f : HF h w r pc) : Ab.nzs h = h.take r := by
  unfold Ab.nzs
  have e : h = h.take r ++ h.drop r := (List.take_append_drop r h).symm
  have e1 : (h.take r).filter nzR = h.take r := by
    rw [List.filter_eq_self]
    intro q hq
    obtain ⟨i, hi, rfl⟩ := List.mem_take_iff_getElem.mp hq
    have hl := f.lead_row (i := i) (by omega)
    rw [List.getD_eq_getElem?_getD, List.getElem?_eq_getElem (by omega : i < h.length)] at hl
    exact nzR_some hl
  have e2 : (h.drop r).filter nzR = [] := by
    rw [List.filter_eq_nil_iff]
    intro q hq
    obtain ⟨i, h1, h2, e⟩ := drop_mem hq
    rw [nzR_none (lead_zero fun j => by rw [e, f.low i h1])]
    simp
  calc h.filter nzR = (h.take r ++ h.drop r).filter nzR := by rw [List.take_append_drop]
    _ = h.take r := by rw [List.filter_append, e1, e2, List.append_nil]
theorem HF.pivs {h : List (List Int)} {w r : Nat} {pc : Nat → Nat} (f : HF h w r pc) : (h.take r).map (fun q => optN (leadF q)) = ((List.range r).map pc).map fun (k : Nat) => D.int (k : Int) := by
  have hrl := f.le
  refine List.ext_getElem (by rw [List.length_map, List.length_take, List.length_map, List.length_map, List.length_range]; omega) fun i h1 h2 => ?_
  rw [List.length_map, List.length_map, List.length_range] at h2
  rw [List.getElem_map, List.getElem_map, List.getElem_map, List.getElem_range, List.getElem_take]
  have hl := f.lead_row h2
  rw [List.getD_eq_getElem?_getD, List.getElem?_eq_getElem (by omega : i < h.length)] at hl
  have hl' : leadF h[i] = some (pc i) := hl
  rw [hl']
  rfl
theorem HF.basis {h : List (List Int)} {w r : Nat} {pc : Nat → Nat} (f : HF h w r pc) (hne : h ≠ []) : basF h = h.take (max 1 r) := by
  unfold basF
  rw [f.nzs]
  have hrl := f.le
  have hlt : (h.take r).length = r := by rw [List.length_take]; omega
  rw [hlt]
  by_cases h0 : r > 0
  · rw [if_pos h0, show max 1 r = r by omega]
  · rw [if_neg h0, show max 1 r = 1 by omega]
    cases h with
    | nil => exact absurd rfl hne
    | cons q l => rfl
end
end
section
/-! ### cells of a matrix -/
section
variable {g : Pg}
def matC (b : Nat) (m : List (List Int)) : Mem := some ((List.range m.length).map fun i => .adr (b + 1 + i)) :: m.map rowC
theorem matC_len {b : Nat} {m : List (List Int)} : (matC b m).length = 1 + m.length := by
  unfold matC
  rw [List.length_cons, List.length_map]
  omega
theorem mat_top {pre post : Mem} {b : Nat} {m : List (List Int)} (h : pre.length = b) : (pre ++ matC b m ++ post)[b]? = some (some ((List.range m.length).map fun i => .adr (b + 1 + i))) := by
  rw [List.append_assoc, List.getElem?_append_right (by omega), h, Nat.sub_self]
  rfl
theorem mat_get {pre post : Mem} {b i : Nat} {m : List (List Int)} (h : pre.length = b) (hi : i < m.length) : (pre ++ matC b m ++ post)[b + 1 + i]? = some (rowC (m.getD i [])) := by
  rw [List.append_assoc, List.getElem?_append_right (by omega), h, show b + 1 + i - b = i + 1 by omega, List.getElem?_append_left (by rw [matC_len]; omega)]
  show (m.map rowC)[i]? = _
  rw [List.getElem?_map, List.getElem?_eq_getElem hi, List.getD_eq_getElem?_getD, List.getElem?_eq_getElem hi]
  rfl
theorem mat_set {pre post : Mem} {b i : Nat} {m : List (List Int)} {r : List Int} (h : pre.length = b) (hi : i < m.length) : (pre ++ matC b m ++ post).set (b + 1 + i) (rowC r) = pre ++ matC b (m.set i r) ++ post := by
  rw [List.append_assoc, List.set_append_right _ _ (by omega), h, show b + 1 + i - b = i + 1 by omega, List.set_append_left _ _ (by rw [matC_len]; omega), List.append_assoc]
  congr 2
  show _ :: (m.map rowC).set i (rowC r) = some ((List.range (m.set i r).length).map _) :: (m.set i r).map rowC
  rw [List.length_set, List.map_set]
theorem rows_view {M : Mem} : ∀ (m : List (List Int)) (k : Nat), (∀ i, i < m.length → M[k + i]? = some (rowC (m.getD i []))) → Views M ((List.range m.length).map fun i => .adr (k + i)) (m.map lV)
  | [], _, _ => .nil
  | r :: m, k, h => by
    rw [List.length_cons, List.range_succ_eq_map, List.map_cons, List.map_map, List.map_cons]
    refine .cons (.cel (h 0 (by simp)) (Views.ints _)) ?_
    have := rows_view m (k + 1) fun i hi => by
      have := h (i + 1) (by simpa using hi)
      rw [show k + 1 + i = k + (i + 1) by omega]
      exact this
    have e : ((fun i => O.adr (k + i)) ∘ Nat.succ) = fun i => O.adr (k + 1 + i) := by
      funext i
      show O.adr (k + (i + 1)) = _
      congr 1
      omega
    rw [e]
    exact this
theorem mat_view {pre post : Mem} {b : Nat} {m : List (List Int)} (h : pre.length = b) : View (pre ++ matC b m ++ post) (.adr b) (lM m) := .cel (mat_top h) (rows_view m (b + 1) fun i hi => mat_get h hi)
theorem row_view {M : Mem} {k : Nat} {v : List Int} (h : M[k]? = some (rowC v)) : View M (.adr k) (lV v) := .cel h (Views.ints _)
theorem mat_view' {pre : Mem} {b : Nat} {m : List (List Int)} (h : pre.length = b) : View (pre ++ matC b m) (.adr b) (lM m) := by
  have := mat_view (pre := pre) (post := []) (m := m) h
  rw [List.append_nil] at this
  exact this
theorem mat_app {pre : Mem} {m : List (List Int)} {r : List Int} : (pre ++ matC pre.length m ++ [rowC r]).set pre.length (some (((List.range m.length).map fun i => .adr (pre.length + 1 + i)) ++ [.adr (pre.length + 1 + m.length)])) = pre ++ matC pre.length (m ++ [r]) := by
  rw [List.append_assoc, List.set_append_right _ _ (Nat.le_refl _), Nat.sub_self]
  congr 1
  show some _ :: (m.map rowC ++ [rowC r]) = some ((List.range (m ++ [r]).length).map _) :: (m ++ [r]).map rowC
  rw [List.length_append, List.length_singleton, List.range_succ, List.map_append, List.map_append]
  rfl
theorem Views.set {M : Mem} {d : D} : ∀ {os : List O} {ds : List D} (i : Nat), Views M os ds → Views M (os.set i (.dat d)) (ds.set i d)
  | _, _, _, .nil => .nil
  | _, _, 0, .cons _ r => .cons (.dat _) r
  | _, _, i + 1, .cons h r => .cons h (Views.set i r)
section
variable {C : Cc} {E : List O} {M : Mem} {elt iter : Expr} {p : Pos} {x : Str} {scope : Scope} {own : List (Str × Nat)} {d : D}
/-- [elt for x in xs], each element a new cell of numbers -/
theorem LC.lNest {α : Type} (jx : Nat) {pre : Mem} {xs : List α} {f : α → D} (r : α → List Int) (ok : blkC C.N C.sc scope own = true) (nd : C.N.Nodup) (ho : own.map (·.2) = [jx]) (h : EV C iter E M (.dat d) pre) (hd : seqD d = some (xs.map f)) (hz : xs.length < 100000)
    (step : ∀ y ∈ xs, ∀ M, EV (C.blk scope) elt ((wipeE E [jx]).set jx (.dat (f y))) M (.adr M.length) (M ++ [rowC (r y)]))
    (hi : C.N[jx]? = some x := by rfl) (hx : Loc (C.blk scope).sc x := by first | exact Or.inl rfl | exact Or.inr rfl) (hf' : (C.blk scope).fn x = true ∨ (C.blk scope).sc.names.lookup x = some .local := by first | exact .inl rfl | exact .inr rfl)
    (hf : ∀ env x, foldedSetIterable iter env x = pure x := by intro _ _; rfl) : LC C elt (.Name x p) iter [] scope own E M (.adr pre.length) (pre ++ matC pre.length (xs.map r)) := by
  have key := LC.lX (C := C) (elt := elt) (p := p) (x := x) jx (xs := xs) (f := f) (M1 := pre) (fun k => pre ++ matC pre.length ((xs.take k).map r)) (fun k => (List.range k).map fun q => .adr (pre.length + 1 + q)) ok nd ho h hd rfl rfl (fun i hi' => by
    have hl : ((xs.take i).map r).length = i := by rw [List.length_map, List.length_take]; omega
    have hml : (pre ++ matC pre.length ((xs.take i).map r)).length = pre.length + 1 + i := by rw [List.length_append, matC_len, hl]; omega
    refine ⟨.adr (pre.length + 1 + i), pre ++ matC pre.length ((xs.take i).map r) ++ [rowC (r xs[i])], ?_, ?_, ?_, ?_, ?_⟩
    · rw [← hml]
      exact step _ (List.getElem_mem hi') _
    · rw [mat_top rfl, hl]
    · rw [List.length_map, List.length_range]; omega
    · have := mat_app (pre := pre) (m := (xs.take i).map r) (r := r xs[i])
      rw [hl] at this
      rw [this, List.take_succ_eq_append_getElem hi', List.map_append]
      rfl
    · rw [List.range_succ, List.map_append]
      rfl) hi hx hf' hf
  rw [List.take_length] at key
  exact key
end
end
end
section
section
/-- a matrix of cells frozen -/
def mixF (b : Nat) (m : List (List Int)) (k : Nat) : List O := (List.range m.length).map fun i => if i < k then .dat (lV (m.getD i [])) else .adr (b + 1 + i)
theorem mixF_set {b k : Nat} {m : List (List Int)} (hk : k < m.length) : (mixF b m k).set k (.dat (lV (m.getD k []))) = mixF b m (k + 1) := by
  unfold mixF
  refine List.ext_getElem (by rw [List.length_set, List.length_map, List.length_map]) fun i h1 h2 => ?_
  rw [List.getElem_set, List.getElem_map, List.getElem_map, List.getElem_range]
  by_cases e : k = i
  · subst e
    rw [if_pos rfl, if_pos (by omega)]
  · rw [if_neg e]
    by_cases hl : i < k
    · rw [if_pos hl, if_pos (by omega)]
    · rw [if_neg hl, if_neg (by omega)]
theorem mixF_end {b : Nat} {m : List (List Int)} : mixF b m m.length = (m.map lV).map .dat := by
  unfold mixF
  refine List.ext_getElem (by rw [List.length_map, List.length_map, List.length_map, List.length_range]) fun i h1 h2 => ?_
  have hi : i < m.length := by rwa [List.length_map, List.length_range] at h1
  rw [List.getElem_map, List.getElem_range, if_pos hi, List.getElem_map, List.getElem_map, List.getD_eq_getElem?_getD, List.getElem?_eq_getElem hi]
  rfl
def frzM (pre : Mem) (m : List (List Int)) (k : Nat) : Mem := pre ++ some (mixF pre.length m k) :: (List.replicate k none ++ (m.drop k).map rowC)
theorem frz0 {pre : Mem} {m : List (List Int)} : frzM pre m 0 = pre ++ matC pre.length m := by
  unfold frzM matC mixF
  rw [List.drop_zero]
  rfl
theorem SB.fzM {C : Cc} {E : List O} {pre : Mem} {m : List (List Int)} {jj : Nat} {sts : List Stmt} {r : Out} (he : E[jj]? = some (.adr pre.length)) (h : SB C sts (E.set jj (.dat (lM m))) (pre ++ none :: List.replicate m.length none) r) : SB C sts E (pre ++ matC pre.length m) r := by
  have top : ∀ k, (frzM pre m k)[pre.length]? = some (some (mixF pre.length m k)) := fun k => by
    unfold frzM
    rw [List.getElem?_append_right (Nat.le_refl _), Nat.sub_self]
    rfl
  have go : ∀ d k, m.length - k = d → k ≤ m.length → SB C sts E (frzM pre m k) r := fun d => by
    induction d with
    | zero =>
      intro k hd hk
      have e : k = m.length := by omega
      subst e
      refine SB.fz (jj := jj) (nn := pre.length) (ds := m.map lV) he (by rw [top, mixF_end]) ?_
      have : (frzM pre m m.length).set pre.length none = pre ++ none :: List.replicate m.length none := by
        unfold frzM
        rw [List.set_append_right _ _ (Nat.le_refl _), Nat.sub_self, List.drop_of_length_le (Nat.le_refl _), List.map_nil, List.append_nil]
        rfl
      rw [this]
      exact h
    | succ d ih =>
      intro k hd hk
      have hk2 : k < m.length := by omega
      have hrow : (frzM pre m k)[pre.length + 1 + k]? = some (some (((m.getD k []).map D.int).map .dat)) := by
        unfold frzM
        rw [List.getElem?_append_right (by omega), show pre.length + 1 + k - pre.length = k + 1 by omega]
        show (List.replicate k none ++ (m.drop k).map rowC)[k]? = _
        rw [List.getElem?_append_right (by rw [List.length_replicate]; exact Nat.le_refl _), List.length_replicate, Nat.sub_self, drop_row hk2]
        rfl
      refine SB.fzC (oc := pre.length) (nn := pre.length + 1 + k) (k := k) (ps := mixF pre.length m k) (ds := (m.getD k []).map D.int) (top k) ?_ (by omega) hrow ?_
      · unfold mixF
        rw [List.getElem?_map, List.getElem?_range hk2]
        show some (if k < k then _ else _) = _
        rw [if_neg (by omega)]
      · have e : ((frzM pre m k).set (pre.length + 1 + k) none).set pre.length (some ((mixF pre.length m k).set k (.dat (lV (m.getD k []))))) = frzM pre m (k + 1) := by
          rw [mixF_set hk2]
          unfold frzM
          rw [List.set_append_right _ _ (by omega), show pre.length + 1 + k - pre.length = k + 1 by omega, List.set_append_right _ _ (Nat.le_refl _), Nat.sub_self]
          congr 1
          show some _ :: ((List.replicate k none ++ (m.drop k).map rowC).set k none) = _
          rw [List.set_append_right _ _ (by rw [List.length_replicate]; exact Nat.le_refl _), List.length_replicate, Nat.sub_self, drop_row hk2, List.replicate_succ']
          congr 1
          rw [List.append_assoc]
          rfl
        rw [e]
        exact ih (k + 1) (by omega) hk2
  rw [← frz0]
  exact go _ 0 rfl (Nat.zero_le _)
end
section
variable {g : Pg}
theorem m1_get {k : List Int} {A : List (List Int)} {i : Nat} (hi : i < A.length) : (rowC k :: matC 1 A)[1 + 1 + i]? = some (rowC (A.getD i [])) := by
  have := mat_get (pre := [rowC k]) (post := []) (b := 1) (m := A) rfl hi
  rw [List.append_nil] at this
  exact this
theorem m1_set {k : List Int} {A : List (List Int)} {i : Nat} {r : List Int} (hi : i < A.length) : (rowC k :: matC 1 A).set (1 + 1 + i) (rowC r) = rowC k :: matC 1 (A.set i r) := by
  have := mat_set (pre := [rowC k]) (post := []) (b := 1) (m := A) (r := r) rfl hi
  rw [List.append_nil, List.append_nil] at this
  exact this
theorem set_wid {A : List (List Int)} {w i : Nat} {r : List Int} (h : ∀ q ∈ A, q.length = w) (hr : r.length = w) : ∀ q ∈ A.set i r, q.length = w := fun q hq => by
  rcases List.mem_or_eq_of_mem_set hq with hq | rfl
  · exact h q hq
  · exact hr
theorem set_bnd {A : List (List Int)} {B i : Nat} {r : List Int} (h : ∀ q ∈ A, ∀ x ∈ q, x.natAbs ≤ B) (hr : ∀ x ∈ r, x.natAbs ≤ B) : ∀ q ∈ A.set i r, ∀ x ∈ q, x.natAbs ≤ B := fun q hq => by
  rcases List.mem_or_eq_of_mem_set hq with hq | rfl
  · exact h q hq
  · exact hr
def L3 : List Int := [1, -1, 2]
theorem L3_ok : ∀ x ∈ L3, x.natAbs ≤ 2 := by decide
abbrev bsb : List Stmt := defBody s_law_beside
theorem beside_run (W : Wd g) {h : List (List Int)} {w B : Nat} (hn : 1 ≤ h.length ∧ h.length ≤ 8) (hw : 1 ≤ w ∧ w ≤ 8) (hq : ∀ q ∈ h, q.length = w) (hB : ∀ q ∈ h, ∀ x ∈ q, x.natAbs ≤ B) (ns : List Int) : ∃ X ns', X.length = h.length ∧ (∀ q ∈ X, q.length = w) ∧ (∀ q ∈ X, ∀ x ∈ q, x.natAbs ≤ B + 2) ∧ Run g n_law_beside s_law_beside 1 [.adr 0, .dat (tM h)] [rowC ns] (.dat (lM X)) [rowC ns'] := by
  have TK := ok_law_take W
  let C := mkC g n_law_beside s_law_beside 1
  let Fr : O → O → O → O → List O := fun t k i j => [.adr 0, .dat (tM h), .dat (.int (h.length : Int)), t, k, i, j, .no, .no]
  have hne : h ≠ [] := fun e => by rw [e] at hn; simp at hn
  have hwd : (h.headD []).length = w := by
    cases h with
    | nil => exact absurd rfl hne
    | cons q l => exact hq q List.mem_cons_self
  have hB2 : ∀ q ∈ h, ∀ x ∈ q, x.natAbs ≤ B + 2 := fun q a x b => Nat.le_trans (hB q a x b) (by omega)
  have pi := tk_pos (ns := dl 1 ns) (b := (h.length : Int)) (by omega)
  obtain ⟨ki, eki⟩ : ∃ x : Nat, tk (dl 1 ns) (h.length : Int) = (x : Int) := ⟨(tk (dl 1 ns) (h.length : Int)).toNat, by omega⟩
  have hki : ki < h.length := by omega
  have hrow := hq _ (mem_getD hki : h.getD ki [] ∈ h)
  have hqs : ∀ q ∈ h, q.length < 100000 := fun q a => by rw [hq q a]; omega
  generalize hkd : tk ns 4 = kd
  have pk := tk_pos (ns := ns) (b := 4) (by decide)
  rw [hkd] at pk
  have d1 : ∀ {t : O} {M : Mem} {k : List Int} {rest : List Stmt} {r : Out}, M[0]? = some (rowC ns) → M.set 0 (rowC (dl 1 ns)) = M.set 0 (rowC (dl 1 ns)) → SB C rest (Fr t (.dat (.int kd)) (.dat (.int (ki : Int))) .no) (M.set 0 (rowC (dl 2 ns))) r → True := fun _ _ _ => True.intro
  have start : ∀ {t : O} {Mx' : Mem} {r : Out}, SB C (bsb.drop 4) (Fr t (.dat (.int kd)) (.dat (.int (ki : Int))) .no) (rowC (dl 2 ns) :: Mx') r → SB C (bsb.drop 2) (Fr t .no .no .no) (rowC ns :: Mx') r := fun {t Mx' r} hh =>
    SB.cons (E1 := Fr t (.dat (.int kd)) .no .no) (M1 := rowC (dl 1 ns) :: Mx') (ST.set 4 (EV.to (ev_tk (ns := ns) TK (EV.nm 0) EV.int rfl (by decide)) (by rw [hkd])) c_law_beside.nd) (SB.cons (E1 := Fr t (.dat (.int kd)) (.dat (.int (ki : Int))) .no) (M1 := rowC (dl 2 ns) :: Mx') (ST.set 5 (EV.to (ev_tk (ns := dl 1 ns) (j := (h.length : Int)) TK (EV.nm 0) (EV.nm 2) rfl (by omega)) (by rw [eki])) c_law_beside.nd) hh)
  have len0 : ∀ {rest : List Stmt} {r : Out}, SB C rest (Fr .no .no .no .no) [rowC ns] r → SB C (bsb.getD 0 (.Pass ⟨0, 0, 0, 0⟩) :: rest) (pad n_law_beside [.adr 0, .dat (tM h)]) [rowC ns] r := fun {rest r} hh => SB.cons (E1 := Fr .no .no .no .no) (M1 := [rowC ns]) (ST.set 2 (EV.len (EV.nm 1) len_tM W.b.len) c_law_beside.nd) hh
  have no : ∀ {v : Int} {ys : List Stmt} {p p1 p2 p3 : Pos} {jj : Nat} {rest : List Stmt} {t i j : O} {M : Mem} {r : Out}, kd ≠ v → SB C rest (Fr t (.dat (.int kd)) i j) M r → SB C (.If (.Compare (.Name "kind" p1) [.Eq] [.Constant (.int v) jj p2] p3) ys [] p :: rest) (Fr t (.dat (.int kd)) i j) M r := fun {v ys p p1 p2 p3 jj rest t i j M r} hv hh => SB.cons (ST.no (ET.to (ET.cm (EV.nm 4) EV.int CS.eqI) (decide_eq_false hv)) SB.nil) hh
  have yes : ∀ {v : Int} {ys : List Stmt} {p p1 p2 p3 : Pos} {jj : Nat} {t i j : O} {M : Mem} {r : Out}, kd = v → SB C ys (Fr t (.dat (.int kd)) i j) M r → ST C (.If (.Compare (.Name "kind" p1) [.Eq] [.Constant (.int v) jj p2] p3) ys [] p) (Fr t (.dat (.int kd)) i j) M r := fun {v ys p p1 p2 p3 jj t i j M r} hv hh => ST.yes (ET.to (ET.cm (EV.nm 4) EV.int CS.eqI) (decide_eq_true hv)) hh
  by_cases k0 : kd = 0
  · have pj := tk_pos (ns := dl 2 ns) (b := (w : Int)) (by omega)
    obtain ⟨kj, ekj⟩ : ∃ x : Nat, tk (dl 2 ns) (w : Int) = (x : Int) := ⟨(tk (dl 2 ns) (w : Int)).toNat, by omega⟩
    have hkj : kj < (h.getD ki []).length := by omega
    have p3 := tk_pos (ns := dl 3 ns) (b := 3) (by decide)
    have hv := L3_ok _ (pick_mem (L := L3) (i := tk (dl 3 ns) 3) p3)
    generalize hpv : pick L3 (tk (dl 3 ns) 3) = pv at hv
    let r2 := (h.getD ki []).set kj ((h.getD ki []).getD kj 0 + pv)
    refine ⟨h.set ki r2, dl 4 ns, List.length_set, set_wid hq (by rw [List.length_set]; exact hrow), set_bnd hB2 (fun x hx => ?_), Nat.le_refl _, True.intro, lowR, none :: List.replicate (h.set ki r2).length none, len0 (SB.cons (E1 := Fr (.adr 1) .no .no .no) (M1 := rowC ns :: matC 1 h) (ST.to (LC.set 3 (LC.lNest 7 (pre := [rowC ns]) (xs := h) (f := tV) (fun r => r) (own := [("line", 7)]) (by rfl) c_law_beside.nd rfl (EV.nm 1) rfl (by omega) (fun r hr M => EV.listN (EV.nm 7) rfl W.b.list)) rfl rfl (fun env he => sw_true (by rw [he]; rfl) (by rw [he]; rfl) (by rfl) (by rfl))) ?_) (start ?_))⟩
    · rcases List.mem_or_eq_of_mem_set hx with hx | rfl
      · exact hB2 _ (mem_getD hki) x hx
      · have := hB _ (mem_getD hki) _ (mem_getD (a0 := 0) hkj)
        omega
    · rw [List.map_id']
      rfl
    · refine SB.cons (E1 := Fr (.adr 1) (.dat (.int kd)) (.dat (.int (ki : Int))) (.dat (.int (kj : Int)))) (M1 := rowC (dl 4 ns) :: matC 1 (h.set ki r2)) (yes k0 (SB.cons (E1 := Fr (.adr 1) (.dat (.int kd)) (.dat (.int (ki : Int))) (.dat (.int (kj : Int)))) (M1 := rowC (dl 3 ns) :: matC 1 h) (ST.set 6 (EV.to (ev_tk (ns := dl 2 ns) (j := (w : Int)) TK (EV.nm 0) (EV.to (EV.len (EV.ix (EV.nm 1) EV.int (ix_tM0 hne)) len_tV W.b.len) (by rw [hwd])) rfl (by omega)) (by rw [ekj])) c_law_beside.nd) (SB.one (ST.to (ST.asg (M1 := rowC (dl 4 ns) :: matC 1 h) (o := .dat (.int ((h.getD ki []).getD kj 0 + pv))) (EV.to (EV.add (EV.ixC (n := 1 + 1 + ki) (EV.ixC (n := 1) (EV.nm 3) (EV.nm 5) rfl (adr_at (b := 1 + 1) hki)) (EV.nm 6) (m1_get hki) (row_at hkj)) (EV.ix (EV.lst (ds := L3.map D.int) (EA.cons EV.int (EA.cons (EV.neg EV.int) (EA.cons EV.int EA.nil))) (by decide)) (ev_tk (ns := dl 3 ns) TK (EV.nm 0) EV.int rfl (by decide)) (pick_at p3))) (by rw [hpv])) (EG.sub (n := 1 + 1 + ki) (jj := kj) (ps := ((h.getD ki []).map D.int).map O.dat) (EV.ixC (n := 1) (EV.nm 3) (EV.nm 5) rfl (adr_at (b := 1 + 1) hki)) (EV.nm 6) (m1_get hki) (by rw [row_len]; exact ixN_of hkj))) ?_)))) ?_
      · rw [row_set, m1_set hki]
      · exact no (by omega) (no (by omega) (no (by omega) (SB.fzM (pre := [rowC (dl 4 ns)]) (jj := 3) rfl (SB.one (ST.ret (EV.nm 3))))))
  have flat : ∀ {rest : List Stmt} {r : Out}, SB C rest (Fr (.adr 1) .no .no .no) [rowC ns, cel h] r → SB C (bsb.getD 1 (.Pass ⟨0, 0, 0, 0⟩) :: rest) (Fr .no .no .no .no) [rowC ns] r := fun {rest r} hh => SB.cons (E1 := Fr (.adr 1) .no .no .no) (M1 := [rowC ns, cel h]) (LC.set 3 (LC.lMC 7 (M1 := [rowC ns]) (xs := h) (f := tV) (g := lV) (own := [("line", 7)]) (by rfl) c_law_beside.nd rfl (EV.nm 1) rfl (by omega) (fun q hq' M => EV.list (EV.nm 7) rfl W.b.list)) rfl rfl (fun env he => sw_true (by rw [he]; rfl) (by rw [he]; rfl) (by rfl) (by rfl))) hh
  have fin : ∀ {X : List (List Int)} {k : List Int} {k' i j : O}, SB C (bsb.drop 8) (Fr (.adr 1) k' i j) [rowC k, cel X] (.rt (.dat (lM X)) [rowC k, none]) := fun {X k k' i j} => SB.fz (jj := 3) (nn := 1) (ds := X.map lV) rfl rfl (SB.one (ST.ret (EV.nm 3)))
  have hcl : ∀ x : List (List Int), ((x.map lV).map O.dat).length = x.length := fun x => by rw [List.length_map, List.length_map]
  by_cases k1 : kd = 1
  · have pj := tk_pos (ns := dl 2 ns) (b := (h.length : Int)) (by omega)
    obtain ⟨kj, ekj⟩ : ∃ x : Nat, tk (dl 2 ns) (h.length : Int) = (x : Int) := ⟨(tk (dl 2 ns) (h.length : Int)).toNat, by omega⟩
    have hkj : kj < h.length := by omega
    have hrow2 := hq _ (mem_getD hkj : h.getD kj [] ∈ h)
    refine ⟨(h.set ki (h.getD kj [])).set kj (h.getD ki []), dl 3 ns, by rw [List.length_set, List.length_set], set_wid (set_wid hq hrow2) hrow, set_bnd (set_bnd hB2 (hB2 _ (mem_getD hkj))) (hB2 _ (mem_getD hki)), Nat.le_refl _, True.intro, lowR, [none], len0 (flat (start (no (by omega) (SB.cons (E1 := Fr (.adr 1) (.dat (.int kd)) (.dat (.int (ki : Int))) (.dat (.int (kj : Int)))) (M1 := [rowC (dl 3 ns), cel ((h.set ki (h.getD kj [])).set kj (h.getD ki []))]) (yes k1 (SB.cons (E1 := Fr (.adr 1) (.dat (.int kd)) (.dat (.int (ki : Int))) (.dat (.int (kj : Int)))) (M1 := [rowC (dl 3 ns), cel h]) (ST.set 6 (EV.to (ev_tk (ns := dl 2 ns) (j := (h.length : Int)) TK (EV.nm 0) (EV.nm 2) rfl (by omega)) (by rw [ekj])) c_law_beside.nd) (SB.cons (E1 := Fr (.adr 1) (.dat (.int kd)) (.dat (.int (ki : Int))) (.dat (.int (kj : Int)))) (M1 := [rowC (dl 3 ns), cel (h.set ki (h.getD kj []))]) (ST.to (ST.asg (EV.list (EV.ix (EV.nm 1) (EV.nm 6) (ix_tM hkj)) rfl W.b.list) (EG.sub (n := 1) (jj := ki) (ps := (h.map lV).map O.dat) (EV.nm 3) (EV.nm 5) rfl (by rw [hcl]; exact ixN_of hki))) ?_) (SB.one (ST.to (ST.asg (EV.list (EV.ix (EV.nm 1) (EV.nm 5) (ix_tM hki)) rfl W.b.list) (EG.sub (n := 1) (jj := kj) (ps := ((h.set ki (h.getD kj [])).map lV).map O.dat) (EV.nm 3) (EV.nm 6) rfl (by rw [hcl, List.length_set]; exact ixN_of hkj))) ?_))))) (no (by omega) (no (by omega) fin))))))⟩
    · show Out.nx _ [rowC _, some (((h.map lV).map O.dat).set ki (.dat (lV (h.getD kj []))))] = _
      rw [celS]
    · show Out.nx _ [rowC _, some ((((h.set ki (h.getD kj [])).map lV).map O.dat).set kj (.dat (lV (h.getD ki []))))] = _
      rw [celS]
  by_cases k2 : kd = 2
  · refine ⟨h.set ki ((h.getD ki []).map fun x => 0 - x), dl 2 ns, List.length_set, set_wid hq (by rw [List.length_map]; exact hrow), set_bnd hB2 (fun x hx => ?_), Nat.le_refl _, True.intro, lowR, [none], len0 (flat (start (no (by omega) (no (by omega) (SB.cons (E1 := Fr (.adr 1) (.dat (.int kd)) (.dat (.int (ki : Int))) .no) (M1 := [rowC (dl 2 ns), cel (h.set ki ((h.getD ki []).map fun x => 0 - x))]) (yes k2 (SB.one (ST.to (ST.asg (LC.ev (LC.lM 8 (xs := h.getD ki []) (f := D.int) (g := fun x => .int (0 - x)) (own := [("x", 8)]) (by rfl) c_law_beside.nd rfl (EV.ix (EV.nm 1) (EV.nm 5) (ix_tM hki)) rfl (Nat.le_refl _) OkM.refl (by omega) (fun x hx M => EV.sub EV.int (EV.nm 8)))) (EG.sub (n := 1) (jj := ki) (ps := (h.map lV).map O.dat) (EV.nm 3) (EV.nm 5) rfl (by rw [hcl]; exact ixN_of hki))) ?_))) (no (by omega) fin))))))⟩
    · obtain ⟨y, hy, rfl⟩ := List.mem_map.mp hx
      have := hB2 _ (mem_getD hki) y hy
      omega
    · rw [lV_map]
      show Out.nx _ [rowC _, some (((h.map lV).map O.dat).set ki (.dat (lV _)))] = _
      rw [celS]
  have k3 : kd = 3 := by omega
  have cut : cutD (h.map tV) none (some ((h.length : Int) - 1)) = (h.take (h.length - 1)).map tV := by
    rw [show ((h.length : Int) - 1) = ((h.length - 1 : Nat) : Int) by omega, cut_take (by rw [List.length_map]; omega), List.map_take]
  have hlast : h.length - 1 < h.length := by omega
  refine ⟨h.getD (h.length - 1) [] :: h.take (h.length - 1), dl 2 ns, by rw [List.length_cons, List.length_take]; omega, fun q hq' => ?_, fun q hq' => ?_, Nat.le_refl _, True.intro, lowR, [cel h], len0 (flat (start (no (by omega) (no (by omega) (no (by omega) (SB.cons (E1 := Fr (.dat (lM (h.getD (h.length - 1) [] :: h.take (h.length - 1)))) (.dat (.int kd)) (.dat (.int (ki : Int))) .no) (M1 := [rowC (dl 2 ns), cel h]) (yes k3 (SB.one (ST.to (ST.set 3 (EV.bin (EV.lst (ds := [lV (h.getD (h.length - 1) [])]) (EA.cons (EV.list (EV.ix (d := tV (h.getD (h.length - 1) [])) (EV.nm 1) (EV.sub (EV.nm 2) EV.int) ?_) rfl W.b.list) EA.nil) (by show 1 ≤ 100000; decide)) (LC.ev (LC.lM 7 (xs := h.take (h.length - 1)) (f := tV) (g := lV) (own := [("line", 7)]) (by rfl) c_law_beside.nd rfl (EV.slT (EV.nm 1) EO.none (EO.some (EV.sub (EV.nm 2) EV.int))) (by rw [cut]; rfl) (Nat.le_refl _) (OkM.dat (OkM.dat OkM.nil)) (by rw [List.length_take]; omega) (fun q hq M => EV.list (EV.nm 7) rfl W.b.list))) (BS.addL (by rw [List.length_map, List.length_take]; show 1 + _ ≤ _; omega))) c_law_beside.nd) ?_))) (SB.one (ST.ret (EV.nm 3)))))))))⟩
  · rcases List.mem_cons.mp hq' with rfl | hq'
    · exact hq _ (mem_getD hlast)
    · exact hq q (List.mem_of_mem_take hq')
  · rcases List.mem_cons.mp hq' with rfl | hq'
    · exact hB2 _ (mem_getD hlast)
    · exact hB2 q (List.mem_of_mem_take hq')
  · rw [show ((h.length : Int) - 1) = ((h.length - 1 : Nat) : Int) by omega]
    exact ix_tM hlast
  · rfl
theorem fn_beside (W : Wd g) : FN g "_law_beside" 2 (fun os M o M' => os.length = 2 ∧ Run g n_law_beside s_law_beside 1 os M o M') := FN.run (ps := ["row", "h"]) W.t_law_beside c_law_beside (fun _ _ _ _ _ _ us hl => match us, hl with | [_, _], _ => rfl)
end
end
section
section
variable {g : Pg}
theorem fit_v {f : List Int → D} {v : List Int} (hf : f v = tV v ∨ f v = lV v) (h : v.length < 100000) : Fit 1 (f v) := by
  rcases hf with e | e <;> rw [e] <;> exact ⟨by rw [List.length_map]; exact h, fun x hx => by obtain ⟨y, _, rfl⟩ := List.mem_map.mp hx; exact True.intro⟩
theorem fit_t {m : List (List Int)} (h : m.length < 100000) (hq : ∀ q ∈ m, q.length < 100000) : Fit 2 (tM m) := ⟨by rw [List.length_map]; exact h, fun x hx => by
  obtain ⟨q, hq2, rfl⟩ := List.mem_map.mp hx
  exact fit_v (f := tV) (.inl rfl) (hq q hq2)⟩
theorem fit_l {m : List (List Int)} (h : m.length < 100000) (hq : ∀ q ∈ m, q.length < 100000) : Fit 2 (lM m) := ⟨by rw [List.length_map]; exact h, fun x hx => by
  obtain ⟨q, hq2, rfl⟩ := List.mem_map.mp hx
  exact fit_v (f := lV) (.inr rfl) (hq q hq2)⟩
theorem fit_n {l : List Nat} (h : l.length < 100000) : Fit 1 (.tup (l.map fun (k : Nat) => D.int (k : Int))) := ⟨by rw [List.length_map]; exact h, fun x hx => by obtain ⟨y, _, rfl⟩ := List.mem_map.mp hx; exact True.intro⟩
/-- the law likes what it is due -/
theorem ev_like (W : Wd g) {C : Cc} {n : Nat} {E : List O} {M M1 M2 : Mem} {a b : Expr} {d : D} {p pos : Pos} (hC : C.g = g) (ha : EV C a E M (.dat d) M1) (hb : EV C b E M1 (.dat d) M2) (hf : Fit n d) (hk : Nat.ble (n + 1) C.k = true)
    (hg : C.sc.names.lookup ("_law_like" : Str) = some .globalImplicit := by rfl) (he : ∀ env, starEach [a, b] env = (false, eval a env) :: starEach [b] env := by intro _; rfl) (he2 : ∀ env, starEach [b] env = (false, eval b env) :: starEach [] env := by intro _; rfl) (hpl : ∀ env, (backTo pos (starEach [b] env)).any (·.1) = false := by intro _; rfl) :
    EV C (.Call (.Name "_law_like" p) [a, b] [] pos) E M (.dat (.bl true)) M2 := by
  subst hC
  exact EV.c2 (ok_law_like W n) ha hb ⟨rfl, hf, rfl⟩ hk hg (by decide) he he2 hpl
abbrev tdb : List Stmt := defBody s_law_told
theorem mx_res {A H : List (List Int)} (hA : Mx A) (R : Rsl A H) (hb : mostF H ≤ 999990) : Mx H ∧ wd H = wd A := by
  obtain ⟨r, pc, f⟩ := R.fm
  have hl := R.hl
  have h1 := hA.l1
  have h2 := hA.l8
  have h3 := hA.w1
  have h4 := hA.w8
  have hne : H ≠ [] := fun e => by rw [e] at hl; have : 0 = A.length := hl; omega
  have hw := f.wdh hne
  refine ⟨⟨by omega, by omega, by omega, by omega, fun q hq => by rw [hw]; exact f.wid q hq, fun q hq x hx => ?_⟩, hw⟩
  have := mostF_le.mp hb q hq x hx
  omega
theorem told_run (W : Wd g) {A H : List (List Int)} (hA : Mx A) (hH : HOf A H) (ns : List Int) : ∃ ns', Run g n_law_told s_law_told 38 [.adr 0, .dat (lM A), .dat (tM H)] [rowC ns] (.dat (.bl true)) [rowC ns'] := by
  let C := mkC g n_law_told s_law_told 38
  have R := hH.rsl
  obtain ⟨r, pc, f⟩ := R.fm
  have hl := R.hl
  have h1 := hA.l1
  have h2 := hA.l8
  have h3 := hA.w1
  have h4 := hA.w8
  have hrl := f.le
  have hne : H ≠ [] := fun e => by rw [e] at hl; have : 0 = A.length := hl; omega
  have hwd := f.wdh hne
  have hAne := hA.ne
  let Fr : O → O → O → O → List O := fun hd r k o => [.adr 0, .dat (lM A), .dat (tM H), hd, r, k, o, .no]
  let hs : O := .dat (lN ((List.range r).map pc))
  have isA : IsM (tM A) A := isM_t hA
  have rows : ∀ {E : List O} {M : Mem} {p p1 p2 : Pos}, E[1]? = some (.dat (lM A)) → EV C (.Call (.Name "_law_rows" p) [.Name "a" p1] [] p2) E M (.dat (tM A)) M := fun {E M p p1 p2} h0 => EV.c1 (ok_law_rows W) (EV.nm 1 rfl h0) ⟨A, sq_l, by omega, rfl⟩
  have head : ∀ {M : Mem} {rest : List Stmt} {r' : Out}, SB C rest (Fr hs (.dat (.int (r : Int))) .no .no) [rowC ns] r' → SB C (tdb.getD 0 (.Pass ⟨0, 0, 0, 0⟩) :: tdb.getD 1 (.Pass ⟨0, 0, 0, 0⟩) :: rest) (pad n_law_told [.adr 0, .dat (lM A), .dat (tM H)]) [rowC ns] r' := fun {M rest r'} hh => by
    refine SB.cons (E1 := Fr hs .no .no .no) (M1 := [rowC ns]) (ST.to (LC.set 3 (LC.lMF 7 (xs := headsF H) (f := fun (k : Nat) => D.int (k : Int)) (g := fun (k : Nat) => D.int (k : Int)) (t := fun x => decide (x < wd A)) (own := [("x", 7)]) (by rfl) c_law_told.nd rfl (EV.c1 (ok_law_heads W) (EV.nm 2) ⟨H, sq_t, by omega, fun q hq => by rw [f.wid q hq]; omega, rfl⟩) rfl (Nat.le_refl _) OkM.refl (by unfold headsF; rw [List.length_map]; omega) (fun x hx M => ET.to (ET.cm (EV.nm 7) (EV.len (EV.ix (EV.nm 1) EV.int (ix_lM (j := 0) (by omega))) len_lV W.b.len) CS.ltI) ?_) (fun x hx _ M => EV.nm 7)) rfl rfl (fun env he => sw_true (by rw [he]; rfl) (by rw [he]; rfl) (by rfl) (by rfl))) ?_) (SB.cons (E1 := Fr hs (.dat (.int (r : Int))) .no .no) (M1 := [rowC ns]) (ST.set 4 (EV.to (EV.len (EV.nm 3) lN_len W.b.len) ?_) c_law_told.nd) hh)
    · have : (A.getD 0 []).length = wd A := hA.rect _ (mem_getD (by omega))
      rw [this]
      simp
    · rw [f.live]
      rfl
    · rw [List.length_map, List.length_range]
  have l1 : EV C (.Name "_law_like" ⟨0, 0, 0, 0⟩) [] [] .no [] → True := fun _ => True.intro
  suffices ∃ ns' J, SB C (tdb.drop 5) (Fr hs (.dat (.int (r : Int))) .no .no) [rowC ns] (.rt (.dat (.bl true)) (rowC ns' :: J)) by
    obtain ⟨ns', J, hsb⟩ := this
    refine ⟨ns', Nat.le_refl _, True.intro, lowR, J, head (M := []) ?_⟩
    refine SB.cons (ST.no (ET.to (EW.et (EW.or (k1 := false) (ET.to (ET.not (ET.val (ev_like W (n := 0) rfl (EV.c1 (ok_rank W) (EV.c1 (ok_law_rows W) (EV.nm 1) ⟨A, sq_l, by omega, rfl⟩) ⟨A, H, isA, hH, by omega, rfl⟩) (EV.to (EV.nm 4) ?_) True.intro (by rfl)))) rfl) (fun _ => EW.or1 (k := false) (ET.to (ET.not (ET.val (ev_like W (n := 1) rfl (EV.c1 (ok_pivots W) (EV.c1 (ok_law_rows W) (EV.nm 1) ⟨A, sq_l, by omega, rfl⟩) ⟨A, H, isA, hH, by omega, rfl⟩) (EV.to (EV.tuple (EV.nm 3) rfl W.b.tuple) ?_) ?_ (by rfl)))) rfl)) (fun _ => rfl))) rfl) SB.nil) ?_
    · rw [f.nzs, List.length_take, Nat.min_eq_left hrl]
    · rw [f.nzs, f.pivs]
    · rw [f.nzs, f.pivs]
      exact fit_n (by rw [List.length_map, List.length_range]; omega)
    refine SB.cons (ST.no (ET.to (ET.not (ET.val (ev_like W (n := 2) rfl (EV.c1 (ok_basis W) (EV.c1 (ok_law_rows W) (EV.nm 1) ⟨A, sq_l, by omega, rfl⟩) ⟨A, H, isA, hH, by omega, hne, rfl⟩) (EV.to (EV.slT (EV.nm 2) EO.none (EO.some (EV.max2 EV.int (EV.nm 4) W.b.max))) ?_) ?_ (by rfl)))) rfl) SB.nil) ?_
    · rw [f.basis hne]
      have : max (1 : Int) (r : Int) = ((max 1 r : Nat) : Int) := by omega
      rw [this, cut_take (by rw [List.length_map]; omega), ← List.map_take]
    · rw [f.basis hne]
      exact fit_t (by rw [List.length_take]; omega) fun q hq => by rw [f.wid q (List.mem_of_mem_take hq)]; omega
    refine SB.cons (ST.no (ET.to (ET.not (ET.val (ev_like W (n := 0) rfl (EV.c1 (ok_is_hermite W) (EV.c1 (ok_law_rows W) (EV.nm 1) ⟨A, sq_l, by omega, rfl⟩) ⟨A, isA, rfl⟩) (EV.to (EV.c1 (ok_law_looks W) (EV.nm 1) ⟨A, sq_l, hAne, by omega, by omega, hA.rect, rfl⟩) ?_) True.intro (by rfl)))) rfl) SB.nil) hsb
    rw [in_looks hA.rect]
  have most : ∀ {p p1 p2 : Pos}, EV C (.Call (.Name "_law_most" p) [.Name "h" p1] [] p2) (Fr hs (.dat (.int (r : Int))) .no .no) [rowC ns] (.dat (.int (mostF H : Int))) [rowC ns] := fun {p p1 p2} => EV.c1 (ok_law_most W) (EV.nm 2) ⟨H, sq_t, rfl⟩
  by_cases hbig : mostF H > 999990
  · exact ⟨ns, [], SB.stop (ST.yes (ET.to (ET.cm most EV.int CS.gtI) (decide_eq_true (by omega))) (SB.one (ST.ret EV.bl)))⟩
  · obtain ⟨hM, _⟩ := mx_res hA R (by omega)
    obtain ⟨H2, hH2⟩ := hof_ex hM
    have R2 := hH2.rsl
    have heq : H2 = H := by
      obtain ⟨r2, pc2, f2⟩ := R2.fm
      rw [hwd] at f2
      exact f2.uniq f R2.hl R2.s1 R2.s2
    subst heq
    have hin : inB H2 = true := by rw [in_looks hM.rect, f.looks]
    have isH : IsM (tM H2) H2 := isM_t hM
    have hB : ∀ q ∈ H2, ∀ x ∈ q, x.natAbs ≤ 999990 := mostF_le.mp (by omega)
    obtain ⟨u, u0, _, uP⟩ := chain (S := List Int) (n := 3) (I := fun _ _ => True)
      (P := fun i s s' => ∃ E2, Fg E2 (Fr hs (.dat (.int (r : Int))) .no .no) ∧ SB C (bodyOf (tdb.getD 7 (.Pass ⟨0, 0, 0, 0⟩))) (Fr hs (.dat (.int (r : Int))) (.dat (.int (i : Int))) .no) [rowC s] (.nx E2 [rowC s'])) (fun i hi s _ => by
        obtain ⟨X, k', x1, x2, x3, x4⟩ := beside_run W (h := H2) (w := wd A) ⟨by omega, by omega⟩ ⟨h3, h4⟩ f.wid hB s
        have xne : X ≠ [] := fun e => by rw [e] at x1; have : 0 = H2.length := x1; omega
        have xwd : wd X = wd A := by
          cases X with
          | nil => exact absurd rfl xne
          | cons q l => exact x2 q List.mem_cons_self
        have xM : Mx X := ⟨by omega, by omega, by omega, by omega, fun q hq => by rw [xwd]; exact x2 q hq, fun q hq x hx => by have := x3 q hq x hx; omega⟩
        refine ⟨k', ⟨Fr hs (.dat (.int (r : Int))) (.dat (.int (i : Int))) (.dat (lM X)), Fg.cons (Fg.cons (Fg.cons (Fg.cons (Fg.cons (Fg.no (Fg.no Fg.refl)))))), SB.cons (ST.set 6 (EV.call1' (n := 0) (ds := [tM H2]) (cs := s.map D.int) (cs' := k'.map D.int) (fn_beside W) (EA.cons (EV.nm 0) (EA.cons (EV.nm 2) EA.nil)) rfl ⟨rfl, x4⟩) c_law_told.nd) (SB.one (ST.no (ET.to (ET.not (ET.val (ev_like W (n := 0) rfl (EV.c1 (ok_is_hermite W) (EV.c1 (ok_law_rows W) (EV.nm 6) ⟨X, sq_l, by omega, rfl⟩) ⟨X, isM_t xM, rfl⟩) (EV.to (EV.c1 (ok_law_looks W) (EV.nm 6) ⟨X, sq_l, xne, by omega, by omega, xM.rect, rfl⟩) ?_) True.intro (by rfl)))) rfl) SB.nil))⟩, True.intro⟩
        rw [in_looks xM.rect]) ns True.intro
    refine ⟨u 3, [], SB.cons (ST.no (ET.to (ET.cm most EV.int CS.gtI) (decide_eq_false (by omega))) SB.nil) (SB.cons (ST.no (ET.to (EW.et (EW.or (k1 := false) (ET.to (ET.cm (EV.c1 (ok_is_hermite W) (EV.nm 2) ⟨H2, isH, rfl⟩) EV.bl CS.isnotB) (by rw [hin]; rfl)) (fun _ => EW.or1 (k := false) (ET.to (ET.not (ET.val (ev_like W (n := 2) rfl (EV.c1 (ok_hermite W) (EV.nm 2) ⟨H2, H2, isH, hH2, rfl⟩) (EV.nm 2) (fit_t (by omega) fun q hq => by rw [f.wid q hq]; omega) (by rfl)))) rfl)) (fun _ => rfl))) rfl) SB.nil) (SB.cons (E1 := Fr hs (.dat (.int (r : Int))) .no .no) (M1 := [rowC (u 3)]) (ST.forN 5 (n := 3) (E_ := fun _ => Fr hs (.dat (.int (r : Int))) .no .no) (M_ := fun i => [rowC (u i)]) (EI.rng1 EV.int W.b.range (by decide)) Fg.refl (by rw [u0]) (fun _ _ => True.intro) c_law_told.nd (fun i hi => by rw [atI0_eq]; exact uP i hi)) (SB.one (ST.ret EV.bl))))⟩
theorem fn_told (W : Wd g) : FN g "_law_told" 39 (fun os M o M' => os.length = 3 ∧ Run g n_law_told s_law_told 38 os M o M') := FN.run (ps := ["row", "a", "h"]) W.t_law_told c_law_told (fun _ _ _ _ _ _ us hl => match us, hl with | [_, _, _], _ => rfl)
end
end
section
section
variable {g : Pg}
/-- matrices that span the same rows, step by step -/
structure Kin (h a : List (List Int)) (n w : Nat) : Prop where
  mx : Mx a
  len : a.length = n
  wid : wd a = w
  s1 : Sub a h
  s2 : Sub h a
theorem Led.kin {h a m : List (List Int)} {n w : Nat} {d : D} (K : Kin h a n w) (L : Led a d m) (hb : mostF m ≤ 1000000) : Kin h m n w := by
  have hl := L.len
  have h1 := K.mx.l1
  have h2 := K.mx.l8
  have h3 := K.mx.w1
  have h4 := K.mx.w8
  have hw : ∀ q ∈ m, q.length = w := L.wid fun q hq => by rw [← K.wid]; exact K.mx.rect q hq
  have hne : m ≠ [] := fun e => by rw [e] at hl; have : 0 = a.length := hl; omega
  have hwd : wd m = w := by
    cases m with
    | nil => exact absurd rfl hne
    | cons q l => exact hw q List.mem_cons_self
  have hk := K.wid
  obtain ⟨p1, p2⟩ := L.sub (w := w) fun q hq => by rw [← K.wid]; exact K.mx.rect q hq
  exact ⟨⟨by omega, by omega, by omega, by omega, fun q hq => by rw [hwd]; exact hw q hq, fun q hq x hx => by have := mostF_le.mp hb q hq x hx; omega⟩, hl.trans K.len, hwd, p1.trans K.s1, K.s2.trans p2⟩
/-- the walk of a step: other = lead(a, deed(row, n)), kept where it is small -/
theorem step_run (W : Wd g) {h a : List (List Int)} {n w : Nat} (K : Kin h a n w) (s : List Int) : ∃ m d s', Led a d m ∧ Run g n_law_deed s_law_deed 1 [.adr 0, .dat (.int (n : Int))] [rowC s] (.dat d) [rowC s'] ∧ (∃ m m', lM a = lM m ∧ Led m d m' ∧ m.length < 1000 ∧ (∀ q ∈ m, q.length < 1000) ∧ (∀ i j, i < m.length → j < m.length → (m.getD i []).length = (m.getD j []).length) ∧ True) := by
  have h1 := K.mx.l1
  have h2 := K.mx.l8
  have hl := K.len
  obtain ⟨d, s', h3, h4⟩ := deed_run W (n := n) ⟨by omega, by omega⟩ s
  rw [← hl] at h3
  obtain ⟨m, L⟩ := led_ex h3
  exact ⟨m, d, s', L, h4, a, m, rfl, L, by omega, fun q hq => by rw [K.mx.rect q hq]; have := K.mx.w8; omega, fun i j hi hj => by rw [K.mx.rect _ (mem_getD hi), K.mx.rect _ (mem_getD hj)], True.intro⟩
theorem Kin.lead {h a m : List (List Int)} {n w : Nat} {d : D} (K : Kin h a n w) (L : Led a d m) : ∃ m0 m', lM a = lM m0 ∧ Led m0 d m' ∧ m0.length < 1000 ∧ (∀ q ∈ m0, q.length < 1000) ∧ (∀ i j, i < m0.length → j < m0.length → (m0.getD i []).length = (m0.getD j []).length) ∧ lM m = lM m' := by
  have h2 := K.mx.l8
  exact ⟨a, m, rfl, L, by omega, fun q hq => by rw [K.mx.rect q hq]; have := K.mx.w8; omega, fun i j hi hj => by rw [K.mx.rect _ (mem_getD hi), K.mx.rect _ (mem_getD hj)], rfl⟩
abbrev lgb : List Stmt := defBody s_law_large
theorem large_run (W : Wd g) (ns : List Int) : ∃ ns', Run g n_law_large s_law_large 38 [.adr 0] [rowC ns] (.dat (.bl true)) [rowC ns'] := by
  have TK := ok_law_take W
  let C := mkC g n_law_large s_law_large 38
  have p1 := tk_pos (ns := ns) (b := 4) (by decide)
  have p2 := tk_pos (ns := dl 1 ns) (b := 4) (by decide)
  obtain ⟨n, en⟩ : ∃ x : Nat, 5 + tk ns 4 = (x : Int) := ⟨(5 + tk ns 4).toNat, by omega⟩
  obtain ⟨m, em⟩ : ∃ x : Nat, 5 + tk (dl 1 ns) 4 = (x : Int) := ⟨(5 + tk (dl 1 ns) 4).toNat, by omega⟩
  have hn : 5 ≤ n ∧ n ≤ 8 := by omega
  have hm : 5 ≤ m ∧ m ≤ 8 := by omega
  obtain ⟨T, cols, ws, k1, F, hrun⟩ := form_run W (n := n) (m := m) (full := decide (tk (dl 2 ns) 3 = 0)) hn.2 hm.2 (dl 3 ns)
  let H := T ++ List.replicate (n - T.length) (List.replicate m 0)
  have f : HF H m cols.length (fun i => cols.getD i 0) := F.hf
  have htl := F.tl
  have hln := F.len
  have hHl : H.length = n := by show (T ++ _).length = n; rw [List.length_append, List.length_replicate]; omega
  have hHne : H ≠ [] := fun e => by rw [e] at hHl; have : 0 = n := hHl; omega
  have hHw := f.wdh hHne
  have hHm : Mx H := ⟨by omega, by omega, by omega, by omega, fun q hq => by rw [hHw]; exact f.wid q hq, fun q hq x hx => by have := F.num q hq x hx; omega⟩
  have hHe : H = T ++ List.replicate (n - T.length) (List.replicate m 0) := rfl
  clear_value H
  let Fr : O → O → O → O → O → O → List O := fun l c w h a k => [.adr 0, .dat (.int (n : Int)), .dat (.int (m : Int)), l, c, w, h, a, k, .no, .no]
  let G : O → O → List O := fun a k => Fr (.dat (lM T)) (.dat (lN cols)) (.dat (lV ws)) (.dat (lM H)) a k
  have p12 := tk_pos (ns := k1) (b := 12) (by decide)
  obtain ⟨u, u0, uI, uP⟩ := chain (S := List Int × List (List Int)) (n := (3 + tk k1 12).toNat) (I := fun _ s => Kin H s.2 n m)
    (P := fun i s s' => ∃ E2, Fg E2 (G (.dat (lM s'.2)) .no) ∧ SB C (bodyOf (lgb.getD 5 (.Pass ⟨0, 0, 0, 0⟩))) (G (.dat (lM s.2)) (.dat (.int (i : Int)))) [rowC s.1] (.nx E2 [rowC s'.1])) (fun i hi s hs => by
      obtain ⟨k2, a⟩ := s
      obtain ⟨m', d, k3, L, hr, _⟩ := step_run W hs k2
      have lead : ∀ {rest : List Stmt} {r : Out}, SB C rest [.adr 0, .dat (.int (n : Int)), .dat (.int (m : Int)), .dat (lM T), .dat (lN cols), .dat (lV ws), .dat (lM H), .dat (lM a), .dat (.int (i : Int)), .dat (lM m'), .no] [rowC k3] r → SB C ((bodyOf (lgb.getD 5 (.Pass ⟨0, 0, 0, 0⟩))).getD 0 (.Pass ⟨0, 0, 0, 0⟩) :: rest) (G (.dat (lM a)) (.dat (.int (i : Int)))) [rowC k2] r := fun {rest r} hh =>
        SB.cons (ST.set 9 (EV.c2 (ok_law_lead W) (EV.nm 7) (EV.call1' (n := 0) (ds := [.int (n : Int)]) (cs := k2.map D.int) (cs' := k3.map D.int) (fn_deed W) (EA.cons (EV.nm 0) (EA.cons (EV.nm 1) EA.nil)) rfl ⟨rfl, hr⟩) (hs.lead L)) c_law_large.nd) hh
      by_cases hb : mostF m' ≤ 1000000
      · refine ⟨(k3, m'), ⟨_, ?_, lead (SB.one (ST.yes (ET.to (ET.cm (EV.c1 (ok_law_most W) (EV.nm 9) ⟨m', sq_l, rfl⟩) EV.int CS.leI) (decide_eq_true (by omega))) (SB.one (ST.set 7 (EV.nm 9) c_law_large.nd))))⟩, L.kin hs hb⟩
        exact Fg.cons (Fg.cons (Fg.cons (Fg.cons (Fg.cons (Fg.cons (Fg.cons (Fg.cons (Fg.no (Fg.no Fg.refl)))))))))
      · refine ⟨(k3, a), ⟨_, ?_, lead (SB.one (ST.no (ET.to (ET.cm (EV.c1 (ok_law_most W) (EV.nm 9) ⟨m', sq_l, rfl⟩) EV.int CS.leI) (decide_eq_false (by omega))) SB.nil))⟩, hs⟩
        exact Fg.cons (Fg.cons (Fg.cons (Fg.cons (Fg.cons (Fg.cons (Fg.cons (Fg.cons (Fg.no (Fg.no Fg.refl)))))))))) (dl 1 k1, H) ⟨hHm, hHl, hHw, Sub.refl, Sub.refl⟩
  have K := uI _ (Nat.le_refl _)
  generalize hu : u (3 + tk k1 12).toNat = ue at K
  obtain ⟨k4, a⟩ := ue
  simp only at K
  obtain ⟨H2, hH2⟩ := hof_ex K.mx
  have R2 := hH2.rsl
  have heq : H2 = H := by
    obtain ⟨r2, pc2, f2⟩ := R2.fm
    rw [K.wid] at f2
    exact f2.uniq f (by rw [R2.hl, K.len, hHl]) (R2.s1.trans K.s1) (K.s2.trans R2.s2)
  have hal := K.len
  refine ⟨k4, Nat.le_refl _, True.intro, lowR, [], ?_⟩
  refine SB.cons (E1 := [.adr 0, .dat (.int (n : Int)), .no, .no, .no, .no, .no, .no, .no, .no, .no]) (M1 := [rowC (dl 1 ns)]) (ST.set 1 (EV.to (EV.add EV.int (ev_tk (ns := ns) TK (EV.nm 0) EV.int rfl (by decide))) (by rw [en])) c_law_large.nd) ?_
  refine SB.cons (E1 := Fr .no .no .no .no .no .no) (M1 := [rowC (dl 2 ns)]) (ST.set 2 (EV.to (EV.add EV.int (ev_tk (ns := dl 1 ns) TK (EV.nm 0) EV.int rfl (by decide))) (by rw [em])) c_law_large.nd) ?_
  refine SB.cons (E1 := Fr (.dat (lM T)) (.dat (lN cols)) (.dat (lV ws)) .no .no .no) (M1 := [rowC k1]) (ST.asg (EV.call1' (n := 0) (ds := [.int (n : Int), .int (m : Int), .bl (decide (tk (dl 2 ns) 3 = 0))]) (cs := (dl 3 ns).map D.int) (cs' := k1.map D.int) (fn_form W) (EA.cons (EV.nm 0) (EA.cons (EV.nm 1) (EA.cons (EV.nm 2) (EA.cons (EV.cm (ev_tk (ns := dl 2 ns) TK (EV.nm 0) EV.int rfl (by decide)) EV.int CS.eqI) EA.nil)))) rfl ⟨rfl, hrun⟩) (EG.tup (ds := [lM T, lN cols, lV ws]) (EGs.cons (EG.nm 3 c_law_large.nd) (EGs.cons (EG.nm 4 c_law_large.nd) (EGs.cons (EG.nm 5 c_law_large.nd) EGs.nil))))) ?_
  refine SB.cons (E1 := Fr (.dat (lM T)) (.dat (lN cols)) (.dat (lV ws)) (.dat (lM H)) .no .no) (M1 := [rowC k1]) (ST.to (ST.set 6 (EV.bin (EV.nm 3) (LC.ev (LC.lR 8 (j := ((n - T.length : Nat) : Int)) (g := fun _ => lV (List.replicate m 0)) (own := [("k", 8)]) (by rfl) c_law_large.nd rfl (EV.to (EV.sub (EV.nm 1) (EV.len (EV.nm 3) len_lM W.b.len)) (by congr 2; omega)) W.b.range (Nat.le_refl _) OkM.refl (by omega) (fun i hi M => EV.to (EV.bin (EV.lst (ds := [.int 0]) (EA.cons EV.int EA.nil) (by show 1 ≤ 100000; decide)) (EV.nm 2) (BS.mulL (by omega) (by omega) (by show 1 ≤ 100; decide))) (by rw [repI, Int.toNat_natCast])))) (BS.addL (by rw [List.length_map, List.length_map, List.length_range]; omega))) c_law_large.nd) ?_) ?_
  · have e1 : (List.range (n - T.length)).map (fun _ => lV (List.replicate m 0)) = (List.replicate (n - T.length) (List.replicate m 0)).map lV := by
      rw [List.map_const', List.length_range, List.map_replicate]
    rw [Int.toNat_natCast, e1]
    show Out.nx (Fr _ _ _ (.dat (.lst (T.map lV ++ (List.replicate (n - T.length) (List.replicate m 0)).map lV))) _ _) _ = _
    rw [← List.map_append, ← hHe]
  refine SB.cons (E1 := G (.dat (lM H)) .no) (M1 := [rowC k1]) (ST.to (LC.set 7 (LC.lM 10 (xs := H) (f := lV) (g := lV) (own := [("line", 10)]) (by rfl) c_law_large.nd rfl (EV.nm 6) rfl (Nat.le_refl _) OkM.refl (by omega) (fun q hq M => EV.list (EV.nm 10) rfl W.b.list)) rfl rfl (fun env he => sw_true (by rw [he]; rfl) (by rw [he]; rfl) (by rfl) (by rfl))) rfl) ?_
  refine SB.cons (E1 := G (.dat (lM a)) .no) (M1 := [rowC k4]) (ST.to (ST.forN 8 (n := (3 + tk k1 12).toNat) (E_ := fun i => G (.dat (lM (u i).2)) .no) (M_ := fun i => [rowC (u i).1]) (EI.rng1 (EV.add EV.int (ev_tk (ns := k1) TK (EV.nm 0) EV.int rfl (by decide))) W.b.range (by omega)) (by rw [u0]; exact Fg.refl) (by rw [u0]; rfl) (fun _ _ => True.intro) c_law_large.nd (fun i hi => by rw [atI0_eq]; exact uP i hi)) (by rw [hu])) ?_
  have e2 : (Ab.nzs H2).map (fun q => optN (leadF q)) = cols.map fun (k : Nat) => D.int (k : Int) := by
    rw [heq, f.nzs, f.pivs, range_getD]
  have isA : IsM (tM a) a := isM_t K.mx
  refine SB.one (ST.ret (EV.to (EV.and (k1 := true) (k2 := true) (ev_like W (n := 2) rfl (EV.c1 (ok_hermite W) (EV.c1 (ok_law_rows W) (EV.nm 7) ⟨a, sq_l, by omega, rfl⟩) ⟨a, H2, isA, hH2, rfl⟩) (EV.to (EV.c1 (ok_law_rows W) (EV.nm 6) ⟨H, sq_l, by omega, rfl⟩) (by rw [heq])) ?_ (by rfl)) (fun _ => EV.and1 (ev_like W (n := 1) rfl (EV.c1 (ok_pivots W) (EV.c1 (ok_law_rows W) (EV.nm 7) ⟨a, sq_l, by omega, rfl⟩) ⟨a, H2, isA, hH2, by rw [heq]; omega, rfl⟩) (EV.to (EV.tuple (EV.nm 4) rfl W.b.tuple) (by rw [e2])) ?_ (by rfl))) (fun _ => rfl)) rfl))
  · rw [heq]
    exact fit_t (by omega) fun q hq => by rw [f.wid q hq]; omega
  · rw [e2]
    exact fit_n (by omega)
theorem fn_large (W : Wd g) : FN g "_law_large" 39 (fun os M o M' => os.length = 1 ∧ Run g n_law_large s_law_large 38 os M o M') := FN.run (ps := ["row"]) W.t_law_large c_law_large (fun _ _ _ _ _ _ us hl => match us, hl with | [_], _ => rfl)
end
end
section
section
variable {g : Pg}
abbrev lb : List Stmt := defBody s_law
abbrev C11 (g : Pg) : Cc := mkC g n_law s_law 39
theorem pre2_view {k : List Int} {A : List (List Int)} : View (none :: rowC k :: matC 2 A) (.adr 2) (lM A) := mat_view' (pre := [none, rowC k]) (b := 2) rfl
theorem m2_get {k : List Int} {A : List (List Int)} {i : Nat} (hi : i < A.length) : (none :: rowC k :: matC 2 A)[2 + 1 + i]? = some (rowC (A.getD i [])) := by
  have := mat_get (pre := [none, rowC k]) (post := []) (b := 2) (m := A) rfl hi
  rw [List.append_nil] at this
  exact this
theorem m2_set {k : List Int} {A : List (List Int)} {i : Nat} {r : List Int} (hi : i < A.length) : (none :: rowC k :: matC 2 A).set (2 + 1 + i) (rowC r) = none :: rowC k :: matC 2 (A.set i r) := by
  have := mat_set (pre := [none, rowC k]) (post := []) (b := 2) (m := A) (r := r) rfl hi
  rw [List.append_nil, List.append_nil] at this
  exact this
theorem law_run (W : Wd g) {o0 : O} {ns : List Int} (hs : Scr g.K o0 (ns.map V.int)) (hn : o0 ≠ .no) (hl : ns.length ≤ 63) : ∃ M', SB (C11 g) lb (pad n_law [o0]) [] (.rt (.dat (.bl true)) M') := by
  have T := ok_law_take W
  have hren : ∀ ρ : Nat → Nat, o0.ren ρ = o0 := fun ρ => by
    obtain ⟨a, u, rfl, _⟩ := hs
    rfl
  obtain ⟨res, hres⟩ := draws_run W hs hn hl
  let lg : Bool := decide (tk res 5 = 0)
  let w : Bool := decide (tk (dl 1 res) 4 = 0)
  let q : Int := 4 - (if w = true then 1 else 0)
  have hq : 3 ≤ q ∧ q ≤ 4 := by
    have : ∀ b : Bool, (3 : Int) ≤ 4 - (if b = true then 1 else 0) ∧ 4 - (if b = true then 1 else 0) ≤ (4 : Int) := by decide
    exact this w
  have p1 := tk_pos (ns := dl 2 res) (b := q) (by omega)
  have p2 := tk_pos (ns := dl 3 res) (b := q) (by omega)
  obtain ⟨n, en⟩ : ∃ x : Nat, 1 + tk (dl 2 res) q = (x : Int) := ⟨(1 + tk (dl 2 res) q).toNat, by omega⟩
  obtain ⟨m, em⟩ : ∃ x : Nat, 1 + tk (dl 3 res) q = (x : Int) := ⟨(1 + tk (dl 3 res) q).toNat, by omega⟩
  have hn4 : 1 ≤ n ∧ n ≤ 4 := by omega
  have hm4 : 1 ≤ m ∧ m ≤ 4 := by omega
  obtain ⟨A, k1, hA, hAl, hAw, runA⟩ := drawn_run W (n := n) (m := m) (wide := w) hn4 hm4 (dl 4 res)
  obtain ⟨H, hH⟩ := hof_ex hA
  have R := hH.rsl
  obtain ⟨r, pc, f⟩ := R.fm
  obtain ⟨k2, run2⟩ := told_run W hA hH k1
  let F : O → O → O → O → O → O → O → O → O → List O := fun a hd h b k ot i t j => [o0, .adr 1, .dat (.bl lg), .dat (.bl w), .dat (.int (n : Int)), .dat (.int (m : Int)), a, hd, h, b, k, ot, i, t, j, .no, .no]
  let Mm : List Int → List (List Int) → Mem := fun k X => none :: rowC k :: matC 2 X
  have hHl := R.hl
  have fitH : Fit 2 (tM H) := fit_t (by omega) fun x hx => by rw [f.wid x hx]; omega
  have fitA : Fit 2 (lM A) := fit_l (by omega) fun x hx => by rw [hA.rect x hx]; omega
  have s_row : ∀ {rest : List Stmt} {r' : Out}, SB (C11 g) rest [o0, .adr 1, .no, .no, .no, .no, .no, .no, .no, .no, .no, .no, .no, .no, .no, .no, .no] [none, rowC res] r' → SB (C11 g) (lb.getD 0 (.Pass ⟨0, 0, 0, 0⟩) :: rest) (pad n_law [o0]) [] r' := fun {rest r'} hh =>
    SB.cons (ST.set 1 (EV.callG (ι := []) (os0 := [o0, .dat (.int 320)]) (M0 := []) (M0' := [none, rowC res]) (o0 := .adr 1) (ok_law_draws W) (EA.cons (EV.nm 0 rfl rfl hn) (EA.cons EV.int EA.nil)) ⟨o0, res, hres, rfl, rfl, rfl, rfl⟩ (by show [_, _] = [o0.ren _, _]; rw [hren]; rfl) mixDraws) c_law.nd) hh
  have s_a : ∀ {rest : List Stmt} {r' : Out}, SB (C11 g) rest (F (.dat (lM A)) (.adr 2) (.dat (tM H)) .no .no .no .no .no .no) (Mm k1 A) r' → SB (C11 g) (lb.getD 1 (.Pass ⟨0, 0, 0, 0⟩) :: lb.getD 2 (.Pass ⟨0, 0, 0, 0⟩) :: lb.getD 3 (.Pass ⟨0, 0, 0, 0⟩) :: lb.getD 4 (.Pass ⟨0, 0, 0, 0⟩) :: lb.getD 5 (.Pass ⟨0, 0, 0, 0⟩) :: lb.getD 6 (.Pass ⟨0, 0, 0, 0⟩) :: lb.getD 7 (.Pass ⟨0, 0, 0, 0⟩) :: rest) [o0, .adr 1, .no, .no, .no, .no, .no, .no, .no, .no, .no, .no, .no, .no, .no, .no, .no] [none, rowC res] r' := fun {rest r'} hh => by
    refine SB.cons (E1 := [o0, .adr 1, .dat (.bl lg), .no, .no, .no, .no, .no, .no, .no, .no, .no, .no, .no, .no, .no, .no]) (M1 := [none, rowC (dl 1 res)]) (ST.set 2 (EV.cm (ev_tk (n := 1) (ns := res) T (EV.nm 1) EV.int rfl (by decide)) EV.int CS.eqI) c_law.nd) ?_
    refine SB.cons (E1 := [o0, .adr 1, .dat (.bl lg), .dat (.bl w), .no, .no, .no, .no, .no, .no, .no, .no, .no, .no, .no, .no, .no]) (M1 := [none, rowC (dl 2 res)]) (ST.set 3 (EV.cm (ev_tk (n := 1) (ns := dl 1 res) T (EV.nm 1) EV.int rfl (by decide)) EV.int CS.eqI) c_law.nd) ?_
    refine SB.cons (E1 := [o0, .adr 1, .dat (.bl lg), .dat (.bl w), .dat (.int (n : Int)), .no, .no, .no, .no, .no, .no, .no, .no, .no, .no, .no, .no]) (M1 := [none, rowC (dl 3 res)]) (ST.set 4 (EV.to (EV.add EV.int (ev_tk (n := 1) (ns := dl 2 res) (j := q) T (EV.nm 1) (EV.sub EV.int (EV.intB (EV.nm 3) W.b.int)) rfl (by omega))) (by rw [en])) c_law.nd) ?_
    refine SB.cons (E1 := F .no .no .no .no .no .no .no .no .no) (M1 := [none, rowC (dl 4 res)]) (ST.set 5 (EV.to (EV.add EV.int (ev_tk (n := 1) (ns := dl 3 res) (j := q) T (EV.nm 1) (EV.sub EV.int (EV.intB (EV.nm 3) W.b.int)) rfl (by omega))) (by rw [em])) c_law.nd) ?_
    refine SB.cons (E1 := F (.dat (lM A)) .no .no .no .no .no .no .no .no) (M1 := [none, rowC k1]) (ST.set 6 (EV.call1' (n := 1) (ds := [.int (n : Int), .int (m : Int), .bl w]) (cs := (dl 4 res).map D.int) (cs' := k1.map D.int) (fn_drawn W) (EA.cons (EV.nm 1) (EA.cons (EV.nm 4) (EA.cons (EV.nm 5) (EA.cons (EV.nm 3) EA.nil)))) rfl ⟨rfl, runA⟩) c_law.nd) ?_
    refine SB.cons (E1 := F (.dat (lM A)) (.adr 2) .no .no .no .no .no .no .no) (M1 := Mm k1 A) (ST.to (LC.set 7 (LC.lNest 15 (pre := [none, rowC k1]) (xs := A) (f := lV) (fun r => r) (own := [("line", 15)]) (by rfl) c_law.nd rfl (EV.nm 6) rfl (by omega) (fun r hr M => EV.listN (EV.nm 15) rfl W.b.list)) rfl rfl (fun env he => sw_true (by rw [he]; rfl) (by rw [he]; rfl) (by rfl) (by rfl))) ?_) ?_
    · rw [List.map_id']
      rfl
    exact SB.cons (ST.set 8 (EV.lend (ds := [lM A]) (ok_hermite W) (EA.cons (EV.nm 7) EA.nil) (.cons pre2_view .nil) ⟨_, _, rfl, rfl, rfl, rfl, A, H, isM_l hA, hH, rfl⟩ (NoL.mat H)) c_law.nd) hh
  have s_told : ∀ {rest : List Stmt} {r' : Out}, SB (C11 g) rest (F (.dat (lM A)) (.adr 2) (.dat (tM H)) .no .no .no .no .no .no) (Mm k2 A) r' → SB (C11 g) (lb.getD 8 (.Pass ⟨0, 0, 0, 0⟩) :: rest) (F (.dat (lM A)) (.adr 2) (.dat (tM H)) .no .no .no .no .no .no) (Mm k1 A) r' := fun {rest r'} hh =>
    SB.cons (M1 := Mm k2 A) (ST.no (ET.to (EW.et (EW.or (k1 := false) (k2 := false) (ET.to (ET.not (ET.val (EV.c2 (r := .bl true) (ok_law_right W) (EV.nm 6) (EV.nm 8) ⟨A, H, sq_l, rfl, hA, by omega, R, rfl⟩))) rfl) (fun _ => EW.or (k1 := false) (k2 := false) (ET.to (ET.not (ET.val (k := true) (EV.lend (ds := [lM A, lM A]) (d := .bl true) (ok_law_like W 2) (EA.cons (EV.nm 7) (EA.cons (EV.nm 6) EA.nil)) (.cons pre2_view (.cons (.dat _) .nil)) ⟨_, _, _, rfl, rfl, rfl, rfl, rfl, fitA, rfl⟩ (.bl true)))) rfl) (fun _ => EW.or1 (ET.to (ET.not (ET.val (k := true) (EV.call1' (n := 1) (ds := [lM A, tM H]) (d := .bl true) (cs := k1.map D.int) (cs' := k2.map D.int) (M' := Mm k2 A) (fn_told W) (EA.cons (EV.nm 1) (EA.cons (EV.nm 6) (EA.cons (EV.nm 8) EA.nil))) rfl ⟨rfl, run2⟩))) rfl)) (fun z => nomatch z)) (fun z => nomatch z))) rfl) SB.nil) hh
  have p7 := tk_pos (ns := k2) (b := 7) (by decide)
  let G : O → O → List O := fun b k => F (.dat (lM A)) (.adr 2) (.dat (tM H)) b k .no .no .no .no
  obtain ⟨u, u0, uI, uP⟩ := chain (S := List Int × List (List Int)) (n := (tk k2 7).toNat) (I := fun _ s => Kin A s.2 n m)
    (P := fun i s s' => ∃ E2, Fg E2 (G (.dat (lM s'.2)) .no) ∧ SB (C11 g) (bodyOf (lb.getD 10 (.Pass ⟨0, 0, 0, 0⟩))) (G (.dat (lM s.2)) (.dat (.int (i : Int)))) (Mm s.1 A) (.nx E2 (Mm s'.1 A))) (fun i hi s hs => by
      obtain ⟨k3, b⟩ := s
      obtain ⟨m', d, k4, L, hr, _⟩ := step_run W hs k3
      have lead : ∀ {rest : List Stmt} {r : Out}, SB (C11 g) rest (F (.dat (lM A)) (.adr 2) (.dat (tM H)) (.dat (lM b)) (.dat (.int (i : Int))) (.dat (lM m')) .no .no .no) (Mm k4 A) r → SB (C11 g) ((bodyOf (lb.getD 10 (.Pass ⟨0, 0, 0, 0⟩))).getD 0 (.Pass ⟨0, 0, 0, 0⟩) :: rest) (G (.dat (lM b)) (.dat (.int (i : Int)))) (Mm k3 A) r := fun {rest r} hh =>
        SB.cons (ST.set 11 (EV.c2 (ok_law_lead W) (EV.nm 9) (EV.call1' (n := 1) (ds := [.int (n : Int)]) (cs := k3.map D.int) (cs' := k4.map D.int) (M' := Mm k4 A) (fn_deed W) (EA.cons (EV.nm 1) (EA.cons (EV.nm 4) EA.nil)) rfl ⟨rfl, hr⟩) (hs.lead L)) c_law.nd) hh
      by_cases hb : mostF m' ≤ 1000000
      · refine ⟨(k4, m'), ⟨_, ?_, lead (SB.one (ST.yes (ET.to (ET.cm (EV.c1 (ok_law_most W) (EV.nm 11) ⟨m', sq_l, rfl⟩) EV.int CS.leI) (decide_eq_true (by omega))) (SB.one (ST.set 9 (EV.nm 11) c_law.nd))))⟩, L.kin hs hb⟩
        exact Fg.cons (Fg.cons (Fg.cons (Fg.cons (Fg.cons (Fg.cons (Fg.cons (Fg.cons (Fg.cons (Fg.cons (Fg.no (Fg.no Fg.refl)))))))))))
      · refine ⟨(k4, b), ⟨_, ?_, lead (SB.one (ST.no (ET.to (ET.cm (EV.c1 (ok_law_most W) (EV.nm 11) ⟨m', sq_l, rfl⟩) EV.int CS.leI) (decide_eq_false (by omega))) SB.nil))⟩, hs⟩
        exact Fg.cons (Fg.cons (Fg.cons (Fg.cons (Fg.cons (Fg.cons (Fg.cons (Fg.cons (Fg.cons (Fg.cons (Fg.no (Fg.no Fg.refl)))))))))))) (dl 1 k2, A) ⟨hA, hAl, hAw, Sub.refl, Sub.refl⟩
  have K := uI _ (Nat.le_refl _)
  generalize hu : u (tk k2 7).toNat = ue at K
  obtain ⟨k5, b⟩ := ue
  simp only at K
  have hbl := K.len
  have hbw := K.wid
  obtain ⟨H3, hH3⟩ := hof_ex K.mx
  have e3 : H3 = H := hH3.rsl.uniq R (by rw [hbl, hAl]) (by rw [hbw, hAw]) K.s1 K.s2
  subst e3
  have s_b : ∀ {rest : List Stmt} {r' : Out}, SB (C11 g) rest (G (.dat (lM b)) .no) (Mm k5 A) r' → SB (C11 g) (lb.getD 9 (.Pass ⟨0, 0, 0, 0⟩) :: lb.getD 10 (.Pass ⟨0, 0, 0, 0⟩) :: lb.getD 11 (.Pass ⟨0, 0, 0, 0⟩) :: rest) (G .no .no) (Mm k2 A) r' := fun {rest r'} hh => by
    refine SB.cons (E1 := G (.dat (lM A)) .no) (M1 := Mm k2 A) (ST.set 9 (EV.nm 6) c_law.nd) ?_
    refine SB.cons (E1 := G (.dat (lM b)) .no) (M1 := Mm k5 A) (ST.to (ST.forN 10 (n := (tk k2 7).toNat) (E_ := fun i => G (.dat (lM (u i).2)) .no) (M_ := fun i => Mm (u i).1 A) (EI.rng1 (ev_tk (n := 1) (ns := k2) T (EV.nm 1) EV.int rfl (by decide)) W.b.range (by omega)) (by rw [u0]; exact Fg.refl) (by rw [u0]; rfl) (fun _ _ => True.intro) c_law.nd (fun i hi => by rw [atI0_eq]; exact uP i hi)) (by rw [hu])) ?_
    exact SB.cons (ST.no (ET.to (ET.not (ET.val (ev_like W (n := 2) rfl (EV.c1 (ok_hermite W) (EV.c1 (ok_law_rows W) (EV.nm 9) ⟨b, sq_l, by omega, rfl⟩) ⟨b, H3, isM_t K.mx, hH3, rfl⟩) (EV.nm 8) fitH (by rfl)))) rfl) SB.nil) hh
  have pi := tk_pos (ns := k5) (b := (n : Int)) (by omega)
  obtain ⟨ki, eki⟩ : ∃ x : Nat, tk k5 (n : Int) = (x : Int) := ⟨(tk k5 (n : Int)).toNat, by omega⟩
  have hki : ki < b.length := by omega
  have pt := tk_pos (ns := dl 1 k5) (b := 2) (by decide)
  generalize htt : 2 + tk (dl 1 k5) 2 = t
  have htb : 2 ≤ t ∧ t ≤ 3 := by omega
  have hrow := K.mx.rect _ (mem_getD hki : b.getD ki [] ∈ b)
  have s_i : ∀ {rest : List Stmt} {r' : Out}, SB (C11 g) rest (F (.dat (lM A)) (.adr 2) (.dat (tM H3)) (.dat (lM b)) .no .no (.dat (.int (ki : Int))) (.dat (.int t)) .no) (Mm (dl 2 k5) A) r' → SB (C11 g) (lb.getD 12 (.Pass ⟨0, 0, 0, 0⟩) :: lb.getD 13 (.Pass ⟨0, 0, 0, 0⟩) :: rest) (G (.dat (lM b)) .no) (Mm k5 A) r' := fun {rest r'} hh =>
    SB.cons (E1 := F (.dat (lM A)) (.adr 2) (.dat (tM H3)) (.dat (lM b)) .no .no (.dat (.int (ki : Int))) .no .no) (M1 := Mm (dl 1 k5) A) (ST.set 12 (EV.to (ev_tk (n := 1) (ns := k5) (j := (n : Int)) (M' := Mm (dl 1 k5) A) T (EV.nm 1) (EV.nm 4) rfl (by omega)) (by rw [eki])) c_law.nd) (SB.cons (E1 := F (.dat (lM A)) (.adr 2) (.dat (tM H3)) (.dat (lM b)) .no .no (.dat (.int (ki : Int))) (.dat (.int t)) .no) (M1 := Mm (dl 2 k5) A) (ST.set 13 (EV.to (EV.add EV.int (ev_tk (n := 1) (ns := dl 1 k5) (M' := Mm (dl 2 k5) A) T (EV.nm 1) EV.int rfl (by decide))) (by rw [htt])) c_law.nd) hh)
  have most : ∀ {p p1 p2 p3 p4 p5 : Pos}, EV (C11 g) (.Call (.Name "_law_most" p) [.List [.Subscript (.Name "b" p1) (.Name "i" p2) p3] p4] [] p5) (F (.dat (lM A)) (.adr 2) (.dat (tM H3)) (.dat (lM b)) .no .no (.dat (.int (ki : Int))) (.dat (.int t)) .no) (Mm (dl 2 k5) A) (.dat (.int (mostF [b.getD ki []] : Int))) (Mm (dl 2 k5) A) := fun {p p1 p2 p3 p4 p5} => EV.c1 (ok_law_most W) (EV.lst (ds := [lV (b.getD ki [])]) (EA.cons (EV.ix (EV.nm 9) (EV.nm 12) (ix_lM hki)) EA.nil) (by show 1 ≤ 100000; decide)) ⟨[b.getD ki []], sq_l (m := [b.getD ki []]), rfl⟩
  have s_t : ∀ {rest : List Stmt} {r' : Out}, (∀ bo : O, SB (C11 g) rest (F (.dat (lM A)) (.adr 2) (.dat (tM H3)) bo .no .no (.dat (.int (ki : Int))) (.dat (.int t)) .no) (Mm (dl 2 k5) A) r') → SB (C11 g) (lb.getD 14 (.Pass ⟨0, 0, 0, 0⟩) :: rest) (F (.dat (lM A)) (.adr 2) (.dat (tM H3)) (.dat (lM b)) .no .no (.dat (.int (ki : Int))) (.dat (.int t)) .no) (Mm (dl 2 k5) A) r' := fun {rest r'} hh => by
    by_cases hsm : mostF [b.getD ki []] ≤ 300000
    · let nr : List Int := (b.getD ki []).map fun x => t * x
      let B2 : List (List Int) := b.take ki ++ [nr] ++ b.drop (ki + 1)
      have hb8 := K.mx.l8
      have hsm2 : ∀ x ∈ b.getD ki [], x.natAbs ≤ 300000 := fun x hx => mostF_le.mp hsm _ (List.mem_singleton.mpr rfl) x hx
      have hB2l : B2.length = n := by
        show (b.take ki ++ [nr] ++ b.drop (ki + 1)).length = n
        rw [List.length_append, List.length_append, List.length_take, List.length_drop, List.length_singleton]
        omega
      have hmem : ∀ q ∈ B2, q ∈ b ∨ q = nr := fun q hq => by
        rcases List.mem_append.mp hq with h1 | h1
        · rcases List.mem_append.mp h1 with h2 | h2
          · exact .inl (List.mem_of_mem_take h2)
          · exact .inr (List.mem_singleton.mp h2)
        · exact .inl (List.mem_of_mem_drop h1)
      have hB2q : ∀ q ∈ B2, q.length = m := fun q hq => by
        rcases hmem q hq with h1 | h1
        · rw [K.mx.rect q h1, hbw]
        · rw [h1]
          show (List.map _ _).length = m
          rw [List.length_map, hrow, hbw]
      have hB2ne : B2 ≠ [] := fun e => by rw [e] at hB2l; have : 0 = n := hB2l; omega
      have hB2w : wd B2 = m := by
        clear_value B2
        cases B2 with
        | nil => exact absurd rfl hB2ne
        | cons q l => exact hB2q q List.mem_cons_self
      have hB2m : Mx B2 := ⟨by omega, by omega, by omega, by omega, fun q hq => by rw [hB2w]; exact hB2q q hq, fun q hq x hx => by
        rcases hmem q hq with h1 | h1
        · exact K.mx.num q h1 x hx
        · rw [h1] at hx
          obtain ⟨y, hy, rfl⟩ := List.mem_map.mp hx
          have h3 := hsm2 y hy
          have h4 : (t * y).natAbs ≤ 3 * 300000 := by
            rw [Int.natAbs_mul]
            exact Nat.mul_le_mul (by omega) h3
          omega⟩
      obtain ⟨H4, hH4⟩ := hof_ex hB2m
      have c1 : cutD (b.map lV) none (some (ki : Int)) = (b.take ki).map lV := by rw [cut_take (by rw [List.length_map]; omega), List.map_take]
      have c2 : cutD (b.map lV) (some ((ki : Int) + 1)) none = (b.drop (ki + 1)).map lV := by
        rw [show ((ki : Int) + 1) = ((ki + 1 : Nat) : Int) by omega, cut_drop (by rw [List.length_map]; omega), List.map_drop]
      refine SB.cons (E1 := F (.dat (lM A)) (.adr 2) (.dat (tM H3)) (.dat (lM B2)) .no .no (.dat (.int (ki : Int))) (.dat (.int t)) .no) (M1 := Mm (dl 2 k5) A) (ST.yes (ET.to (ET.cm most EV.int CS.leI) (decide_eq_true (by omega))) (SB.cons (E1 := F (.dat (lM A)) (.adr 2) (.dat (tM H3)) (.dat (lM B2)) .no .no (.dat (.int (ki : Int))) (.dat (.int t)) .no) (M1 := Mm (dl 2 k5) A) (ST.to (ST.set 9 (EV.bin (EV.bin (EV.slL (EV.nm 9) EO.none (EO.some (EV.nm 12))) (EV.lst (ds := [lV nr]) (EA.cons (EV.to (LC.ev (LC.lM 16 (xs := b.getD ki []) (f := D.int) (g := fun x => .int (t * x)) (own := [("x", 16)]) (by rfl) c_law.nd rfl (EV.ix (EV.nm 9) (EV.nm 12) (ix_lM hki)) rfl (Nat.le_refl _) OkM.refl (by omega) (fun x hx M => EV.mul (EV.nm 13) (EV.nm 16) (mul_okL (by omega))))) (by rw [lV_map])) EA.nil) (by show 1 ≤ 100000; decide)) (BS.addL (by rw [c1, List.length_map, List.length_take]; show _ + 1 ≤ _; omega))) (EV.slL (EV.nm 9) (EO.some (EV.add (EV.nm 12) EV.int)) EO.none) (BS.addL (by rw [c1, c2, List.length_append, List.length_map, List.length_map, List.length_take, List.length_drop]; show _ + 1 + _ ≤ _; omega))) c_law.nd) ?_) (SB.one (ST.no (ET.to (ET.not (ET.val (EV.c2 (r := .bl true) (ok_law_right W) (EV.nm 9) (EV.c1 (ok_hermite W) (EV.c1 (ok_law_rows W) (EV.nm 9) ⟨B2, sq_l, by omega, rfl⟩) ⟨B2, H4, isM_t hB2m, hH4, rfl⟩) ⟨B2, H4, sq_l, rfl, hB2m, by omega, hH4.rsl, rfl⟩))) rfl) SB.nil)))) (hh _)
      rw [c1, c2]
      show Out.nx (F _ _ _ (.dat (.lst ((b.take ki).map lV ++ [lV nr] ++ (b.drop (ki + 1)).map lV))) _ _ _ _ _) _ = Out.nx (F _ _ _ (.dat (.lst ((b.take ki ++ [nr] ++ b.drop (ki + 1)).map lV))) _ _ _ _ _) _
      rw [List.map_append, List.map_append]
      rfl
    · exact SB.cons (ST.no (ET.to (ET.cm most EV.int CS.leI) (decide_eq_false (by omega))) SB.nil) (hh _)
  -- handed is changed
  have pi2 := tk_pos (ns := dl 2 k5) (b := (n : Int)) (by omega)
  have pj2 := tk_pos (ns := dl 3 k5) (b := (m : Int)) (by omega)
  obtain ⟨ci, eci⟩ : ∃ x : Nat, tk (dl 2 k5) (n : Int) = (x : Int) := ⟨(tk (dl 2 k5) (n : Int)).toNat, by omega⟩
  obtain ⟨cj, ecj⟩ : ∃ x : Nat, tk (dl 3 k5) (m : Int) = (x : Int) := ⟨(tk (dl 3 k5) (m : Int)).toNat, by omega⟩
  have hci : ci < A.length := by omega
  have hcr := hA.rect _ (mem_getD hci : A.getD ci [] ∈ A)
  have hcj : cj < (A.getD ci []).length := by omega
  generalize hxv : (A.getD ci []).getD cj 0 = xv
  have hxb : -1000000 ≤ xv ∧ xv ≤ 1000000 := by
    rw [← hxv]
    exact hA.num _ (mem_getD hci) _ (mem_getD hcj)
  generalize hyv : xv - 1 + 2 * (if decide (xv < 0) = true then 1 else 0) = yv
  have hyb : -1000000 ≤ yv ∧ yv ≤ 1000000 := by
    rw [← hyv]
    by_cases h0 : xv < 0
    · rw [decide_eq_true h0, if_pos rfl]
      omega
    · rw [decide_eq_false h0, if_neg (by decide)]
      omega
  let A2 : List (List Int) := A.set ci ((A.getD ci []).set cj yv)
  have hA2l : A2.length = n := by show (A.set _ _).length = n; rw [List.length_set, hAl]
  have hA2q : ∀ q ∈ A2, q.length = m := set_wid (fun q hq => by rw [hA.rect q hq, hAw]) (by rw [List.length_set, hcr, hAw])
  have hA2ne : A2 ≠ [] := fun e => by rw [e] at hA2l; have : 0 = n := hA2l; omega
  have hA2n : ∀ q ∈ A2, ∀ x ∈ q, -1000000 ≤ x ∧ x ≤ 1000000 := fun q hq x hx => by
    rcases List.mem_or_eq_of_mem_set hq with h1 | h1
    · exact hA.num q h1 x hx
    · rw [h1] at hx
      rcases List.mem_or_eq_of_mem_set hx with h2 | h2
      · exact hA.num _ (mem_getD hci) x h2
      · rw [h2]; exact hyb
  have hA2e : A2 = A.set ci ((A.getD ci []).set cj yv) := rfl
  clear_value A2
  have hA2w : wd A2 = m := by
    cases A2 with
    | nil => exact absurd rfl hA2ne
    | cons q l => exact hA2q q List.mem_cons_self
  have hA2m : Mx A2 := ⟨by omega, by omega, by omega, by omega, fun q hq => by rw [hA2w]; exact hA2q q hq, hA2n⟩
  obtain ⟨H5, hH5⟩ := hof_ex hA2m
  have s_c : ∀ {bo : O} {rest : List Stmt} {r' : Out}, SB (C11 g) rest (F (.dat (lM A)) (.dat (lM A2)) (.dat (tM H3)) bo .no .no (.dat (.int (ci : Int))) (.dat (.int t)) (.dat (.int (cj : Int)))) ([none, rowC (dl 4 k5)] ++ none :: List.replicate A2.length none) r' → SB (C11 g) (lb.getD 15 (.Pass ⟨0, 0, 0, 0⟩) :: lb.getD 16 (.Pass ⟨0, 0, 0, 0⟩) :: lb.getD 17 (.Pass ⟨0, 0, 0, 0⟩) :: rest) (F (.dat (lM A)) (.adr 2) (.dat (tM H3)) bo .no .no (.dat (.int (ki : Int))) (.dat (.int t)) .no) (Mm (dl 2 k5) A) r' := fun {bo rest r'} hh => by
    have at' : ∀ {p p1 p2 p3 p4 : Pos} {k : List Int}, EV (C11 g) (.Subscript (.Subscript (.Name "handed" p) (.Name "i" p1) p2) (.Name "j" p3) p4) (F (.dat (lM A)) (.adr 2) (.dat (tM H3)) bo .no .no (.dat (.int (ci : Int))) (.dat (.int t)) (.dat (.int (cj : Int)))) (Mm k A) (.dat (.int xv)) (Mm k A) := fun {p p1 p2 p3 p4 k} => EV.to (EV.ixC (n := 2 + 1 + ci) (EV.ixC (n := 2) (EV.nm 7) (EV.nm 12) rfl (adr_at (b := 2 + 1) hci)) (EV.nm 14) (m2_get hci) (row_at hcj)) (by rw [hxv])
    refine SB.cons (E1 := F (.dat (lM A)) (.adr 2) (.dat (tM H3)) bo .no .no (.dat (.int (ci : Int))) (.dat (.int t)) .no) (M1 := Mm (dl 3 k5) A) (ST.set 12 (EV.to (ev_tk (n := 1) (ns := dl 2 k5) (j := (n : Int)) (M' := Mm (dl 3 k5) A) T (EV.nm 1) (EV.nm 4) rfl (by omega)) (by rw [eci])) c_law.nd) ?_
    refine SB.cons (E1 := F (.dat (lM A)) (.adr 2) (.dat (tM H3)) bo .no .no (.dat (.int (ci : Int))) (.dat (.int t)) (.dat (.int (cj : Int)))) (M1 := Mm (dl 4 k5) A) (ST.set 14 (EV.to (ev_tk (n := 1) (ns := dl 3 k5) (j := (m : Int)) (M' := Mm (dl 4 k5) A) T (EV.nm 1) (EV.nm 5) rfl (by omega)) (by rw [ecj])) c_law.nd) ?_
    refine SB.cons (E1 := F (.dat (lM A)) (.adr 2) (.dat (tM H3)) bo .no .no (.dat (.int (ci : Int))) (.dat (.int t)) (.dat (.int (cj : Int)))) (M1 := [none, rowC (dl 4 k5)] ++ matC 2 A2) (ST.to (ST.asg (M1 := Mm (dl 4 k5) A) (o := .dat (.int yv)) (EV.to (EV.add (EV.sub at' EV.int) (EV.mul EV.int (EV.intB (EV.cm at' EV.int CS.ltI) W.b.int) (mul_okL (by decide)))) (by rw [hyv])) (EG.sub (n := 2 + 1 + ci) (jj := cj) (ps := ((A.getD ci []).map D.int).map O.dat) (EV.ixC (n := 2) (EV.nm 7) (EV.nm 12) rfl (adr_at (b := 2 + 1) hci)) (EV.nm 14) (m2_get hci) (by rw [row_len]; exact ixN_of hcj))) ?_) ?_
    · rw [row_set, m2_set hci, ← hA2e]
      rfl
    · exact SB.fzM (pre := [none, rowC (dl 4 k5)]) (jj := 7) rfl hh
  obtain ⟨k6, run6⟩ := large_run W (dl 4 k5)
  suffices ∃ M', ∀ bo : O, SB (C11 g) (lb.drop 18) (F (.dat (lM A)) (.dat (lM A2)) (.dat (tM H3)) bo .no .no (.dat (.int (ci : Int))) (.dat (.int t)) (.dat (.int (cj : Int)))) ([none, rowC (dl 4 k5)] ++ none :: List.replicate A2.length none) (.rt (.dat (.bl true)) M') by
    obtain ⟨M', hM⟩ := this
    exact ⟨M', s_row (s_a (s_told (s_b (s_i (s_t fun bo => s_c (hM bo))))))⟩
  have s_r : ∀ {bo : O} {rest : List Stmt} {r' : Out}, SB (C11 g) rest (F (.dat (lM A)) (.dat (lM A2)) (.dat (tM H3)) bo .no .no (.dat (.int (ci : Int))) (.dat (.int t)) (.dat (.int (cj : Int)))) ([none, rowC (dl 4 k5)] ++ none :: List.replicate A2.length none) r' → SB (C11 g) (lb.getD 18 (.Pass ⟨0, 0, 0, 0⟩) :: rest) (F (.dat (lM A)) (.dat (lM A2)) (.dat (tM H3)) bo .no .no (.dat (.int (ci : Int))) (.dat (.int t)) (.dat (.int (cj : Int)))) ([none, rowC (dl 4 k5)] ++ none :: List.replicate A2.length none) r' := fun {bo rest r'} hh =>
    SB.cons (ST.no (ET.to (ET.not (ET.val (EV.c2 (r := .bl true) (ok_law_right W) (LC.ev (LC.lM 15 (xs := A2) (f := lV) (g := lV) (own := [("line", 15)]) (by rfl) c_law.nd rfl (EV.nm 7) rfl (Nat.le_refl _) OkM.refl (by omega) (fun q hq M => EV.list (EV.nm 15) rfl W.b.list))) (EV.c1 (ok_hermite W) (EV.nm 7) ⟨A2, H5, isM_l hA2m, hH5, rfl⟩) ⟨A2, H5, sq_l, rfl, hA2m, by omega, hH5.rsl, rfl⟩))) rfl) SB.nil) hh
  by_cases hlg : lg = true
  · exact ⟨[none, rowC k6] ++ none :: List.replicate A2.length none, fun bo => s_r (SB.one (ST.ret (EV.to (EV.or (k1 := false) (k2 := true) (EV.to (EV.not (EV.nm 2)) (by rw [hlg]; rfl)) (fun _ => EV.or1 (EV.call1' (n := 1) (ds := []) (d := .bl true) (cs := (dl 4 k5).map D.int) (cs' := k6.map D.int) (fn_large W) (EA.cons (EV.nm 1) EA.nil) rfl ⟨rfl, run6⟩)) (fun z => nomatch z)) rfl)))⟩
  · have hlf : lg = false := by rwa [Bool.not_eq_true] at hlg
    exact ⟨[none, rowC (dl 4 k5)] ++ none :: List.replicate A2.length none, fun bo => s_r (SB.one (ST.ret (EV.to (EV.or (k1 := true) (k2 := true) (EV.to (EV.not (EV.nm 2)) (by rw [hlf]; rfl)) (fun z => nomatch z) (fun _ => rfl)) rfl)))⟩
def spLaw (K : PySem.W.Frag) : Sp := fun vs H Q _ => ∃ (a : Addr) (ns : List Int), vs = [.ref a] ∧ SqL K H a (ns.map V.int) ∧ ns.length ≤ 63 ∧ LamX.Tabs TabCtx.T H ∧ ∀ H', Q (.bl true) H'
open Classical in
theorem scr_of {K : PySem.W.Frag} {H : Hp} {a : Addr} {xs : List V} (h : SqL K H a xs) : ∃ (I : Hp) (u : Option HO), Ex I H ∧ (∀ o, u = some o → I a = some o) ∧ Scr K (.scr a u) xs ∧ ∀ b v, I b = some v → NT v := by
  have one : ∀ o, H a = some o → NT o → (∀ H' : Hp, H' a = some o → SqL K H' a xs) → ∃ (I : Hp) (u : Option HO), Ex I H ∧ (∀ o, u = some o → I a = some o) ∧ Scr K (.scr a u) xs ∧ ∀ b v, I b = some v → NT v := fun o ho hn hq => by
    have at_ : ∀ b p, (if b = a then some o else none) = some p → b = a ∧ o = p := fun b p hb => by
      by_cases e : b = a
      · exact ⟨e, Option.some.inj ((if_pos e).symm.trans hb)⟩
      · cases (if_neg e).symm.trans hb
    exact ⟨fun b => if b = a then some o else none, some o, fun b p hb => by
      obtain ⟨e1, e2⟩ := at_ b p hb
      rw [e1, ho, e2], fun p hp => (if_pos rfl).trans hp, ⟨a, some o, rfl, fun H' hH => hq H' (hH o rfl)⟩, fun b v hb => (at_ b v hb).2 ▸ hn⟩
  rcases h with (h | ⟨ob, h⟩) | h
  · exact one _ h .lst fun H' h' => .inl (.inl h')
  · exact one _ h (fun _ z => by cases z) fun H' h' => .inl (.inr ⟨ob, h'⟩)
  · exact ⟨fun _ => none, none, (fun b p hb => by cases hb), (fun p hp => by cases hp), ⟨a, none, rfl, fun H' _ => .inr h⟩, fun b v hb => by cases hb⟩
theorem ok_law {f : Addr} {fd : FuncData} (W : Wd g) (F : Fun g.K "law" "law" s_law f fd) : FnOk g.P g.w g.K g.mg g.base CX0 40 f fd ["script"] (spLaw g.K) := by
  obtain ⟨oc, od, kV, doc, pm, an, cdv, ct, osl, rfl, lk, hcd⟩ := F.ex
  refine fn_of lk hcd c_law (fun vs H Q E h => ?_) fun A outer s H vs Q E hr h => ?_
  · obtain ⟨a, ns, rfl, _⟩ := h
    rfl
  · obtain ⟨a, ns, rfl, hS, hlen, tabs, q⟩ := h
    obtain ⟨I, u, ex, hu, hs, nt⟩ := scr_of hS
    obtain ⟨M', hb⟩ := law_run (g := g) W hs (by intro z; cases z) hlen
    have key : ∃ t, PSs (cxOf CX0 g.P g.w g.K g.mg g.base n_law "law" (defScope s_law) f cdv A outer s H E).nox (defBody s_law) t ∧ t { nx := fun _ H' => Q .non H', rt := Q } (L2.start n_law [.ref a]) H := by
      refine ⟨UB (C11 g) lb, ub ⟨rfl, rfl, rfl, rfl, rfl, rfl, rfl, rfl, hr, PassesOwn.never, takes0, fun _ _ => rfl, fun c q z => (by cases z), ⟨_, _, rfl, c_law.gen, c_law.co, rfl, rfl⟩⟩ _, ?_⟩
      refine hb I H [] (L2.start n_law [.ref a]) _ ⟨ex, ⟨rfl, List.nodup_nil, fun k a os h1 _ => by simp at h1, fun k a h1 => by simp at h1, ⟨tabs, nt⟩⟩, rfl, fun i p ov h1 h2 => ?_⟩ fun v I' H' adr' s' g' v' => ?_
      · match i, h1, h2 with
        | 0, h1, h2 =>
          cases h1
          cases h2
          exact ⟨rfl, hu⟩
        | i + 1, h1, h2 =>
          have e : p = .no := by
            have : (List.replicate 16 O.no)[i]? = some p := h1
            exact List.eq_of_mem_replicate (List.mem_of_getElem? this)
          subst e
          have e2 : ov = none := by
            have : (List.replicate 16 (none : Option V))[i]? = some ov := h2
            exact List.eq_of_mem_replicate (List.mem_of_getElem? this)
          subst e2
          rfl
      · cases (show Rep I' (.bl true) v from v')
        exact q H'
    obtain ⟨t, h1, h2⟩ := key
    exact ⟨t, h1.nox, h2⟩
end
end
end Ab
end
set_option maxHeartbeats 0
/-! ### the head -/
namespace Ab
open PySem PySem.Spec PyProof.Rows L2
def d_is_number : He.DefD := ⟨("is_number", none), "is_number", "is_number", defArgs s_is_number, defBody s_is_number, defScope s_is_number, [], []⟩
def d_is_from_to : He.DefD := ⟨("is_from_to", none), "is_from_to", "is_from_to", defArgs s_is_from_to, defBody s_is_from_to, defScope s_is_from_to, [], []⟩
def d_is_row : He.DefD := ⟨("is_row", none), "is_row", "is_row", defArgs s_is_row, defBody s_is_row, defScope s_is_row, [], []⟩
def d_is_vector : He.DefD := ⟨("is_vector", none), "is_vector", "is_vector", defArgs s_is_vector, defBody s_is_vector, defScope s_is_vector, [], []⟩
def d_is_matrix : He.DefD := ⟨("is_matrix", none), "is_matrix", "is_matrix", defArgs s_is_matrix, defBody s_is_matrix, defScope s_is_matrix, [], []⟩
def d_checked_matrix : He.DefD := ⟨("checked_matrix", none), "checked_matrix", "checked_matrix", defArgs s_checked_matrix, defBody s_checked_matrix, defScope s_checked_matrix, [], []⟩
def d_flipped : He.DefD := ⟨("flipped", none), "flipped", "flipped", defArgs s_flipped, defBody s_flipped, defScope s_flipped, [], []⟩
def d_unit : He.DefD := ⟨("unit", none), "unit", "unit", defArgs s_unit, defBody s_unit, defScope s_unit, [], []⟩
def d_is_zero : He.DefD := ⟨("is_zero", none), "is_zero", "is_zero", defArgs s_is_zero, defBody s_is_zero, defScope s_is_zero, [], []⟩
def d_less_multiple : He.DefD := ⟨("less_multiple", none), "less_multiple", "less_multiple", defArgs s_less_multiple, defBody s_less_multiple, defScope s_less_multiple, [], []⟩
def d_lead : He.DefD := ⟨("lead", none), "lead", "lead", defArgs s_lead, defBody s_lead, defScope s_lead, [], []⟩
def d_is_echelon : He.DefD := ⟨("is_echelon", none), "is_echelon", "is_echelon", defArgs s_is_echelon, defBody s_is_echelon, defScope s_is_echelon, [], []⟩
def d_clear_column : He.DefD := ⟨("clear_column", none), "clear_column", "clear_column", defArgs s_clear_column, defBody s_clear_column, defScope s_clear_column, [], []⟩
def d_hermite_ways : He.DefD := ⟨("hermite_ways", none), "hermite_ways", "hermite_ways", defArgs s_hermite_ways, defBody s_hermite_ways, defScope s_hermite_ways, [], []⟩
def d_form_of : He.DefD := ⟨("form_of", none), "form_of", "form_of", defArgs s_form_of, defBody s_form_of, defScope s_form_of, [], []⟩
def d_basis_of : He.DefD := ⟨("basis_of", none), "basis_of", "basis_of", defArgs s_basis_of, defBody s_basis_of, defScope s_basis_of, [], []⟩
def d_rank_of : He.DefD := ⟨("rank_of", none), "rank_of", "rank_of", defArgs s_rank_of, defBody s_rank_of, defScope s_rank_of, [], []⟩
def d_pivots_of : He.DefD := ⟨("pivots_of", none), "pivots_of", "pivots_of", defArgs s_pivots_of, defBody s_pivots_of, defScope s_pivots_of, [], []⟩
def d_in_form : He.DefD := ⟨("in_form", none), "in_form", "in_form", defArgs s_in_form, defBody s_in_form, defScope s_in_form, [], []⟩
def d_hermite : He.DefD := ⟨("hermite", none), "hermite", "hermite", defArgs s_hermite, defBody s_hermite, defScope s_hermite, [], []⟩
def d_is_hermite : He.DefD := ⟨("is_hermite", none), "is_hermite", "is_hermite", defArgs s_is_hermite, defBody s_is_hermite, defScope s_is_hermite, [], []⟩
def d_rank : He.DefD := ⟨("rank", none), "rank", "rank", defArgs s_rank, defBody s_rank, defScope s_rank, [], []⟩
def d_basis : He.DefD := ⟨("basis", none), "basis", "basis", defArgs s_basis, defBody s_basis, defScope s_basis, [], []⟩
def d_pivots : He.DefD := ⟨("pivots", none), "pivots", "pivots", defArgs s_pivots, defBody s_pivots, defScope s_pivots, [], []⟩
def d_law_draws : He.DefD := ⟨("_law_draws", none), "_law_draws", "_law_draws", defArgs s_law_draws, defBody s_law_draws, defScope s_law_draws, [], []⟩
def d_law_take : He.DefD := ⟨("_law_take", none), "_law_take", "_law_take", defArgs s_law_take, defBody s_law_take, defScope s_law_take, [], []⟩
def d_law_like : He.DefD := ⟨("_law_like", none), "_law_like", "_law_like", defArgs s_law_like, defBody s_law_like, defScope s_law_like, [], []⟩
def d_law_rows : He.DefD := ⟨("_law_rows", none), "_law_rows", "_law_rows", defArgs s_law_rows, defBody s_law_rows, defScope s_law_rows, [], []⟩
def d_law_most : He.DefD := ⟨("_law_most", none), "_law_most", "_law_most", defArgs s_law_most, defBody s_law_most, defScope s_law_most, [], []⟩
def d_law_deed : He.DefD := ⟨("_law_deed", none), "_law_deed", "_law_deed", defArgs s_law_deed, defBody s_law_deed, defScope s_law_deed, [], []⟩
def d_law_lead : He.DefD := ⟨("_law_lead", none), "_law_lead", "_law_lead", defArgs s_law_lead, defBody s_law_lead, defScope s_law_lead, [], []⟩
def d_law_form : He.DefD := ⟨("_law_form", none), "_law_form", "_law_form", defArgs s_law_form, defBody s_law_form, defScope s_law_form, [], []⟩
def d_law_det : He.DefD := ⟨("_law_det", none), "_law_det", "_law_det", defArgs s_law_det, defBody s_law_det, defScope s_law_det, [], []⟩
def d_law_choices : He.DefD := ⟨("_law_choices", none), "_law_choices", "_law_choices", defArgs s_law_choices, defBody s_law_choices, defScope s_law_choices, [], []⟩
def d_law_gcd : He.DefD := ⟨("_law_gcd", none), "_law_gcd", "_law_gcd", defArgs s_law_gcd, defBody s_law_gcd, defScope s_law_gcd, [], []⟩
def d_law_divisor : He.DefD := ⟨("_law_divisor", none), "_law_divisor", "_law_divisor", defArgs s_law_divisor, defBody s_law_divisor, defScope s_law_divisor, [], []⟩
def d_law_heads : He.DefD := ⟨("_law_heads", none), "_law_heads", "_law_heads", defArgs s_law_heads, defBody s_law_heads, defScope s_law_heads, [], []⟩
def d_law_looks : He.DefD := ⟨("_law_looks", none), "_law_looks", "_law_looks", defArgs s_law_looks, defBody s_law_looks, defScope s_law_looks, [], []⟩
def d_law_sized : He.DefD := ⟨("_law_sized", none), "_law_sized", "_law_sized", defArgs s_law_sized, defBody s_law_sized, defScope s_law_sized, [], []⟩
def d_law_zeros : He.DefD := ⟨("_law_zeros", none), "_law_zeros", "_law_zeros", defArgs s_law_zeros, defBody s_law_zeros, defScope s_law_zeros, [], []⟩
def d_law_right : He.DefD := ⟨("_law_right", none), "_law_right", "_law_right", defArgs s_law_right, defBody s_law_right, defScope s_law_right, [], []⟩
def d_law_drawn : He.DefD := ⟨("_law_drawn", none), "_law_drawn", "_law_drawn", defArgs s_law_drawn, defBody s_law_drawn, defScope s_law_drawn, [], []⟩
def d_law_beside : He.DefD := ⟨("_law_beside", none), "_law_beside", "_law_beside", defArgs s_law_beside, defBody s_law_beside, defScope s_law_beside, [], []⟩
def d_law_told : He.DefD := ⟨("_law_told", none), "_law_told", "_law_told", defArgs s_law_told, defBody s_law_told, defScope s_law_told, [], []⟩
def d_law_large : He.DefD := ⟨("_law_large", none), "_law_large", "_law_large", defArgs s_law_large, defBody s_law_large, defScope s_law_large, [], []⟩
def d_law : He.DefD := ⟨("law", none), "law", "law", defArgs s_law, defBody s_law, defScope s_law, [], []⟩
def d_Work_init : He.DefD := ⟨("Work", some "__init__"), "__init__", "Work.__init__", defArgs s_Work_init, defBody s_Work_init, defScope s_Work_init, [], []⟩
def d_Work_swap : He.DefD := ⟨("Work", some "swap"), "swap", "Work.swap", defArgs s_Work_swap, defBody s_Work_swap, defScope s_Work_swap, [], []⟩
def d_Work_turn : He.DefD := ⟨("Work", some "turn"), "turn", "Work.turn", defArgs s_Work_turn, defBody s_Work_turn, defScope s_Work_turn, [], []⟩
def d_Work_take : He.DefD := ⟨("Work", some "take"), "take", "Work.take", defArgs s_Work_take, defBody s_Work_take, defScope s_Work_take, [], []⟩
def d_Work_ways : He.DefD := ⟨("Work", some "ways"), "ways", "Work.ways", defArgs s_Work_ways, defBody s_Work_ways, defScope s_Work_ways, [], []⟩
def hfn0 : List He.DefD := [d_is_number, d_is_from_to, d_is_row, d_is_vector, d_is_matrix, d_checked_matrix, d_flipped, d_unit, d_is_zero, d_less_multiple, d_lead, d_is_echelon, d_clear_column, d_hermite_ways, d_form_of, d_basis_of, d_rank_of, d_pivots_of, d_in_form, d_hermite]
def hfn1 : List He.DefD := [d_is_hermite, d_rank, d_basis, d_pivots, d_law_draws, d_law_take, d_law_like, d_law_rows, d_law_most, d_law_deed, d_law_lead, d_law_form, d_law_det, d_law_choices, d_law_gcd, d_law_divisor, d_law_heads, d_law_looks, d_law_sized, d_law_zeros]
def hfn2 : List He.DefD := [d_law_right, d_law_drawn, d_law_beside, d_law_told, d_law_large, d_law, d_Work_init, d_Work_swap, d_Work_turn, d_Work_take, d_Work_ways]
def hfn : List He.DefD := hfn0 ++ hfn1 ++ hfn2
def hfa0 : List He.Fa := [.glo "is_number", .glo "is_from_to", .glo "is_row", .glo "is_vector", .glo "is_matrix", .glo "checked_matrix", .glo "flipped", .glo "unit", .glo "is_zero", .glo "less_multiple", .glo "lead", .glo "is_echelon", .glo "clear_column", .glo "hermite_ways", .glo "form_of", .glo "basis_of", .glo "rank_of", .glo "pivots_of", .glo "in_form", .glo "hermite"]
def hfa1 : List He.Fa := [.glo "is_hermite", .glo "rank", .glo "basis", .glo "pivots", .glo "_law_draws", .glo "_law_take", .glo "_law_like", .glo "_law_rows", .glo "_law_most", .glo "_law_deed", .glo "_law_lead", .glo "_law_form", .glo "_law_det", .glo "_law_choices", .glo "_law_gcd", .glo "_law_divisor", .glo "_law_heads", .glo "_law_looks", .glo "_law_sized", .glo "_law_zeros"]
def hfa2 : List He.Fa := [.glo "_law_right", .glo "_law_drawn", .glo "_law_beside", .glo "_law_told", .glo "_law_large", .glo "law", .free "len", .free "sum", .free "all", .free "any", .free "abs", .free "min", .free "max", .free "int", .free "bool", .free "str", .free "tuple", .free "list", .free "range", .free "zip"]
def hfa3 : List He.Fa := [.free "enumerate", .free "isinstance", .free "reversed", .free "sorted", .int "MOST_SIZE" 8, .int "MOST_NUMBER" 1000000, .cls "Work", .noat "Work" "rows", .noat "Work" "there", .noat "Work" "back", .meth "Work" "swap", .meth "Work" "turn", .meth "Work" "take", .meth "Work" "ways", .mkr "Work", .glo "Work"]
def hfa : List He.Fa := hfa0 ++ hfa1 ++ hfa2 ++ hfa3
def hloose0 : List Str := ["__name__", "CoreError", "InvalidMatrix", "MOST_SIZE", "MOST_NUMBER", "is_number", "is_from_to", "is_row", "is_vector", "is_matrix", "checked_matrix", "flipped", "unit", "is_zero", "less_multiple", "lead", "is_echelon", "Work", "clear_column", "hermite_ways"]
def hloose1 : List Str := ["form_of", "basis_of", "rank_of", "pivots_of", "in_form", "hermite", "is_hermite", "rank", "basis", "pivots", "_law_draws", "_law_take", "_law_like", "_law_rows", "_law_most", "_law_deed", "_law_lead", "_law_form", "_law_det", "_law_choices"]
def hloose2 : List Str := ["_law_gcd", "_law_divisor", "_law_heads", "_law_looks", "_law_sized", "_law_zeros", "_law_right", "_law_drawn", "_law_beside", "_law_told", "_law_large"]
def hloose : List Str := hloose0 ++ hloose1 ++ hloose2
/-- what the module's names reach, and three tables of the interpreter -/
def asY (g : Addr → Option Obj) : List Addr := cStatics :: sysModules :: builtinsNs :: He.asD g 5
def kY (g : Addr → Option Obj) : PySem.W.Frag := He.frT g (asY g)
def seenY (K : PySem.W.Frag) : Bool := (K.lookup cStatics).isSome && ((K.lookup sysModules).isSome && (K.lookup builtinsNs).isSome)
abbrev hcl : He.Defn := ("clear_column", none)
abbrev htf : List He.Defn := [hcl]
def obY (g : Addr → Option Obj) : He.AlX := (He.obsT hfa hfn [] (kY g), seenY (kY g) && He.tabsB g htf (kY g))
abbrev TellsY (w : World) (h : Heap) (K : PySem.W.Frag) : Prop := He.SaysX hfa hfn [] htf seenY w h K
theorem tellsY {w : World} {h : Heap} (e : obY h.get? = He.valX hfn [] w) : TellsY w h (kY h.get?) := by
  obtain ⟨e1, e2⟩ := Prod.mk.inj (show (He.obsT hfa hfn [] (kY h.get?), seenY (kY h.get?) && He.tabsB h.get? htf (kY h.get?)) = (He.valT hfn [] w, true) from e)
  obtain ⟨e3, e4⟩ := Bool.and_eq_true_iff.mp e2
  have tb := fun p hp => Bool.and_eq_true_iff.mp (List.all_eq_true.mp e4 p hp)
  have lk : ∀ p ∈ htf, ∃ u, h.get? (He.cT (kY h.get?) p).2 = some u ∧ He.emptyTab u = true := fun p hp => by
    have z := (tb p hp).2
    generalize h.get? (He.cT (kY h.get?) p).2 = r at z ⊢
    cases r with
    | some u => exact ⟨u, rfl, z⟩
    | none => cases z
  exact ⟨e1, e3, fun p hp => (tb p hp).1, fun p hp => let ⟨_, q, z⟩ := lk p hp; He.frT_none q z, fun p hp => let ⟨_, q, z⟩ := lk p hp; q.trans (congrArg some (He.emptyTab_eq z))⟩
abbrev HR : PySem.W.OpenRow := PySem.W.OpenLaw.row PySem.Challenge.rw_multipliedout_k04_whole_hermite_by_minor
def hhk : PySem.W.Hook where
  α := He.AlX
  obs s := obY s.heap.get?
  val w := He.valX hfn [] w
  says w h := ∃ K : PySem.W.Frag, K.In h ∧ TellsY w h K
  of _ _ e := ⟨_, He.frT_in, tellsY e⟩
  keeps _ _ _ := fun ⟨K, hK, c⟩ k => ⟨K, hK.keeps k, ⟨c.t, c.more, c.hd, c.out, fun p hp => k _ _ (c.empty p hp)⟩⟩
def hob (s : PySem.W.SharedT) : He.AlX := obY (HandSHeadRun.getT s)
theorem hob_eq (s : PySem.W.SharedT) : hob s = hhk.obs s.abs := congrArg obY (funext (HandSHeadRun.getT_eq s))
theorem hrun (w : World) : HandSHeadRun.RunEq HR (PySem.W.view HR.prog [55]) hhk hob 20000 hloose w :=
  PySem.W.byRow2 "special-get-raises" (P := fun w => HandSHeadRun.RunEq HR (PySem.W.view HR.prog [55]) hhk hob 20000 hloose w) (fun w => by intro os; kernel_rfl) (fun w => by intro os; kernel_rfl) w
theorem seer_of {K : PySem.W.Frag} {h base : Heap} {mg : Str → Option Value} {c P : Addr} (N : h.NoSeer) (KX : K.In h) (KB : K.In base) (sy : seenY K = true) (G : base.Ns mainGlobals mg) (T : LamX.TabB base mg c P) : base.NoSeer := by
  have same : ∀ a, (K.lookup a).isSome = true → ∀ m, h.Ns a m → base.Ns a m := fun a ha m ⟨u, es, ep, e, r⟩ => by
    obtain ⟨u', hu⟩ := Option.isSome_iff_exists.mp ha
    have e1 := KX a u' hu
    rw [e] at e1
    cases e1
    exact ⟨u, es, ep, KB a u hu, r⟩
  obtain ⟨s1, s4⟩ := Bool.and_eq_true_iff.mp sy
  obtain ⟨s2, s3⟩ := Bool.and_eq_true_iff.mp s4
  exact ⟨let ⟨m, a, b⟩ := N.statics; ⟨m, same _ s1 m a, b⟩, let ⟨m, a, b⟩ := N.mods; ⟨m, same _ s2 m a, b⟩, let ⟨m, a, b⟩ := N.imp; ⟨m, same _ s3 m a, b⟩, let ⟨bm, ob, b1, _, _, _, b3, b4, b5, _⟩ := T.bm; ⟨mg, bm, ob, G, b1, b3, b4, b5⟩⟩
theorem fun_of {K : PySem.W.Frag} {x q : Str} {st : Stmt} {f : Addr} {fd : FuncData} (F : FunD K x q (defArgs st) (defBody st) (defScope st) [] [] f fd) : Fun K x q st f fd := by
  obtain ⟨oc, od, dV, kV, doc, pm, an, cdv, ct, osl, h1, h2, h3, h4, h5⟩ := F.ex
  rcases h4 with ⟨_, e⟩ | ⟨e, _⟩
  · subst e
    exact ⟨⟨oc, od, kV, doc, pm, an, cdv, ct, osl, h1, h2, h3⟩, F.kp⟩
  · exact absurd rfl e
@[reducible] def wkOf (K : PySem.W.Frag) : WkCtx := ⟨He.ga K "Work", (He.cT K hcl).1, (He.cT K hcl).2⟩
theorem hwd {P : Program} {w : World} {K : PySem.W.Frag} {h base : Heap} {mg : Str → Option Value} (X : K.In h) (G : h.Ns mainGlobals mg) (c : He.SaysD hfa hfn K) (T : LamX.TabB base mg (He.cT K hcl).1 (He.cT K hcl).2) (N : base.NoSeer) (ht : P.given.tree = none) : @Wd (wkOf K) ⟨P, w, K, mg, base⟩ := by
  letI := wkOf K
  exact {
  b := ⟨He.free_ok X G (c.fact 46 (f := .free "len") rfl), He.free_ok X G (c.fact 47 (f := .free "sum") rfl), He.free_ok X G (c.fact 48 (f := .free "all") rfl), He.free_ok X G (c.fact 49 (f := .free "any") rfl), He.free_ok X G (c.fact 50 (f := .free "abs") rfl), He.free_ok X G (c.fact 51 (f := .free "min") rfl), He.free_ok X G (c.fact 52 (f := .free "max") rfl), He.free_ok X G (c.fact 53 (f := .free "int") rfl), He.free_ok X G (c.fact 54 (f := .free "bool") rfl), He.free_ok X G (c.fact 55 (f := .free "str") rfl), He.free_ok X G (c.fact 56 (f := .free "tuple") rfl), He.free_ok X G (c.fact 57 (f := .free "list") rfl), He.free_ok X G (c.fact 58 (f := .free "range") rfl), He.free_ok X G (c.fact 59 (f := .free "zip") rfl), He.free_ok X G (c.fact 60 (f := .free "enumerate") rfl), He.free_ok X G (c.fact 61 (f := .free "isinstance") rfl), He.free_ok X G (c.fact 62 (f := .free "reversed") rfl), He.free_ok X G (c.fact 63 (f := .free "sorted") rfl)⟩
  t_is_number := ⟨let ⟨fd, F⟩ := c.def_ 0 (d := d_is_number) rfl; ⟨_, fd, fun_of F, He.glo_ok X G (c.fact 0 (f := .glo "is_number") rfl)⟩⟩
  t_is_from_to := ⟨let ⟨fd, F⟩ := c.def_ 1 (d := d_is_from_to) rfl; ⟨_, fd, fun_of F, He.glo_ok X G (c.fact 1 (f := .glo "is_from_to") rfl)⟩⟩
  t_is_row := ⟨let ⟨fd, F⟩ := c.def_ 2 (d := d_is_row) rfl; ⟨_, fd, fun_of F, He.glo_ok X G (c.fact 2 (f := .glo "is_row") rfl)⟩⟩
  t_is_vector := ⟨let ⟨fd, F⟩ := c.def_ 3 (d := d_is_vector) rfl; ⟨_, fd, fun_of F, He.glo_ok X G (c.fact 3 (f := .glo "is_vector") rfl)⟩⟩
  t_is_matrix := ⟨let ⟨fd, F⟩ := c.def_ 4 (d := d_is_matrix) rfl; ⟨_, fd, fun_of F, He.glo_ok X G (c.fact 4 (f := .glo "is_matrix") rfl)⟩⟩
  t_checked_matrix := ⟨let ⟨fd, F⟩ := c.def_ 5 (d := d_checked_matrix) rfl; ⟨_, fd, fun_of F, He.glo_ok X G (c.fact 5 (f := .glo "checked_matrix") rfl)⟩⟩
  t_flipped := ⟨let ⟨fd, F⟩ := c.def_ 6 (d := d_flipped) rfl; ⟨_, fd, fun_of F, He.glo_ok X G (c.fact 6 (f := .glo "flipped") rfl)⟩⟩
  t_unit := ⟨let ⟨fd, F⟩ := c.def_ 7 (d := d_unit) rfl; ⟨_, fd, fun_of F, He.glo_ok X G (c.fact 7 (f := .glo "unit") rfl)⟩⟩
  t_is_zero := ⟨let ⟨fd, F⟩ := c.def_ 8 (d := d_is_zero) rfl; ⟨_, fd, fun_of F, He.glo_ok X G (c.fact 8 (f := .glo "is_zero") rfl)⟩⟩
  t_less_multiple := ⟨let ⟨fd, F⟩ := c.def_ 9 (d := d_less_multiple) rfl; ⟨_, fd, fun_of F, He.glo_ok X G (c.fact 9 (f := .glo "less_multiple") rfl)⟩⟩
  t_lead := ⟨let ⟨fd, F⟩ := c.def_ 10 (d := d_lead) rfl; ⟨_, fd, fun_of F, He.glo_ok X G (c.fact 10 (f := .glo "lead") rfl)⟩⟩
  t_is_echelon := ⟨let ⟨fd, F⟩ := c.def_ 11 (d := d_is_echelon) rfl; ⟨_, fd, fun_of F, He.glo_ok X G (c.fact 11 (f := .glo "is_echelon") rfl)⟩⟩
  l_clear_column := by
    obtain ⟨fd, F⟩ := c.def_ 12 (d := d_clear_column) rfl
    obtain ⟨oc, od, dV, kV, doc, pm, an, cdv, ct, osl, e, lk, hcd, h4, h5⟩ := F.ex
    obtain ⟨cc, rfl⟩ := He.codeIn_ref hcd
    subst e
    have ec : (He.cT K hcl).1 = cc := He.codeOf_eq (p := hcl) lk rfl
    rcases h4 with ⟨_, z⟩ | ⟨z, _⟩
    · subst z
      subst ec
      exact ⟨⟨_, oc, od, an, kV, doc, pm, ct, osl, lk, hcd, He.glo_ok X G (c.fact 12 (f := .glo "clear_column") rfl), F.kp⟩, T⟩
    · exact absurd rfl z
  t_hermite_ways := ⟨let ⟨fd, F⟩ := c.def_ 13 (d := d_hermite_ways) rfl; ⟨_, fd, fun_of F, He.glo_ok X G (c.fact 13 (f := .glo "hermite_ways") rfl)⟩⟩
  t_form_of := ⟨let ⟨fd, F⟩ := c.def_ 14 (d := d_form_of) rfl; ⟨_, fd, fun_of F, He.glo_ok X G (c.fact 14 (f := .glo "form_of") rfl)⟩⟩
  t_basis_of := ⟨let ⟨fd, F⟩ := c.def_ 15 (d := d_basis_of) rfl; ⟨_, fd, fun_of F, He.glo_ok X G (c.fact 15 (f := .glo "basis_of") rfl)⟩⟩
  t_rank_of := ⟨let ⟨fd, F⟩ := c.def_ 16 (d := d_rank_of) rfl; ⟨_, fd, fun_of F, He.glo_ok X G (c.fact 16 (f := .glo "rank_of") rfl)⟩⟩
  t_pivots_of := ⟨let ⟨fd, F⟩ := c.def_ 17 (d := d_pivots_of) rfl; ⟨_, fd, fun_of F, He.glo_ok X G (c.fact 17 (f := .glo "pivots_of") rfl)⟩⟩
  t_in_form := ⟨let ⟨fd, F⟩ := c.def_ 18 (d := d_in_form) rfl; ⟨_, fd, fun_of F, He.glo_ok X G (c.fact 18 (f := .glo "in_form") rfl)⟩⟩
  t_hermite := ⟨let ⟨fd, F⟩ := c.def_ 19 (d := d_hermite) rfl; ⟨_, fd, fun_of F, He.glo_ok X G (c.fact 19 (f := .glo "hermite") rfl)⟩⟩
  t_is_hermite := ⟨let ⟨fd, F⟩ := c.def_ 20 (d := d_is_hermite) rfl; ⟨_, fd, fun_of F, He.glo_ok X G (c.fact 20 (f := .glo "is_hermite") rfl)⟩⟩
  t_rank := ⟨let ⟨fd, F⟩ := c.def_ 21 (d := d_rank) rfl; ⟨_, fd, fun_of F, He.glo_ok X G (c.fact 21 (f := .glo "rank") rfl)⟩⟩
  t_basis := ⟨let ⟨fd, F⟩ := c.def_ 22 (d := d_basis) rfl; ⟨_, fd, fun_of F, He.glo_ok X G (c.fact 22 (f := .glo "basis") rfl)⟩⟩
  t_pivots := ⟨let ⟨fd, F⟩ := c.def_ 23 (d := d_pivots) rfl; ⟨_, fd, fun_of F, He.glo_ok X G (c.fact 23 (f := .glo "pivots") rfl)⟩⟩
  t_law_draws := ⟨let ⟨fd, F⟩ := c.def_ 24 (d := d_law_draws) rfl; ⟨_, fd, fun_of F, He.glo_ok X G (c.fact 24 (f := .glo "_law_draws") rfl)⟩⟩
  t_law_take := ⟨let ⟨fd, F⟩ := c.def_ 25 (d := d_law_take) rfl; ⟨_, fd, fun_of F, He.glo_ok X G (c.fact 25 (f := .glo "_law_take") rfl)⟩⟩
  t_law_like := ⟨let ⟨fd, F⟩ := c.def_ 26 (d := d_law_like) rfl; ⟨_, fd, fun_of F, He.glo_ok X G (c.fact 26 (f := .glo "_law_like") rfl)⟩⟩
  t_law_rows := ⟨let ⟨fd, F⟩ := c.def_ 27 (d := d_law_rows) rfl; ⟨_, fd, fun_of F, He.glo_ok X G (c.fact 27 (f := .glo "_law_rows") rfl)⟩⟩
  t_law_most := ⟨let ⟨fd, F⟩ := c.def_ 28 (d := d_law_most) rfl; ⟨_, fd, fun_of F, He.glo_ok X G (c.fact 28 (f := .glo "_law_most") rfl)⟩⟩
  t_law_deed := ⟨let ⟨fd, F⟩ := c.def_ 29 (d := d_law_deed) rfl; ⟨_, fd, fun_of F, He.glo_ok X G (c.fact 29 (f := .glo "_law_deed") rfl)⟩⟩
  t_law_lead := ⟨let ⟨fd, F⟩ := c.def_ 30 (d := d_law_lead) rfl; ⟨_, fd, fun_of F, He.glo_ok X G (c.fact 30 (f := .glo "_law_lead") rfl)⟩⟩
  t_law_form := ⟨let ⟨fd, F⟩ := c.def_ 31 (d := d_law_form) rfl; ⟨_, fd, fun_of F, He.glo_ok X G (c.fact 31 (f := .glo "_law_form") rfl)⟩⟩
  t_law_det := ⟨let ⟨fd, F⟩ := c.def_ 32 (d := d_law_det) rfl; ⟨_, fd, fun_of F, He.glo_ok X G (c.fact 32 (f := .glo "_law_det") rfl)⟩⟩
  t_law_choices := ⟨let ⟨fd, F⟩ := c.def_ 33 (d := d_law_choices) rfl; ⟨_, fd, fun_of F, He.glo_ok X G (c.fact 33 (f := .glo "_law_choices") rfl)⟩⟩
  t_law_gcd := ⟨let ⟨fd, F⟩ := c.def_ 34 (d := d_law_gcd) rfl; ⟨_, fd, fun_of F, He.glo_ok X G (c.fact 34 (f := .glo "_law_gcd") rfl)⟩⟩
  t_law_divisor := ⟨let ⟨fd, F⟩ := c.def_ 35 (d := d_law_divisor) rfl; ⟨_, fd, fun_of F, He.glo_ok X G (c.fact 35 (f := .glo "_law_divisor") rfl)⟩⟩
  t_law_heads := ⟨let ⟨fd, F⟩ := c.def_ 36 (d := d_law_heads) rfl; ⟨_, fd, fun_of F, He.glo_ok X G (c.fact 36 (f := .glo "_law_heads") rfl)⟩⟩
  t_law_looks := ⟨let ⟨fd, F⟩ := c.def_ 37 (d := d_law_looks) rfl; ⟨_, fd, fun_of F, He.glo_ok X G (c.fact 37 (f := .glo "_law_looks") rfl)⟩⟩
  t_law_sized := ⟨let ⟨fd, F⟩ := c.def_ 38 (d := d_law_sized) rfl; ⟨_, fd, fun_of F, He.glo_ok X G (c.fact 38 (f := .glo "_law_sized") rfl)⟩⟩
  t_law_zeros := ⟨let ⟨fd, F⟩ := c.def_ 39 (d := d_law_zeros) rfl; ⟨_, fd, fun_of F, He.glo_ok X G (c.fact 39 (f := .glo "_law_zeros") rfl)⟩⟩
  t_law_right := ⟨let ⟨fd, F⟩ := c.def_ 40 (d := d_law_right) rfl; ⟨_, fd, fun_of F, He.glo_ok X G (c.fact 40 (f := .glo "_law_right") rfl)⟩⟩
  t_law_drawn := ⟨let ⟨fd, F⟩ := c.def_ 41 (d := d_law_drawn) rfl; ⟨_, fd, fun_of F, He.glo_ok X G (c.fact 41 (f := .glo "_law_drawn") rfl)⟩⟩
  t_law_beside := ⟨let ⟨fd, F⟩ := c.def_ 42 (d := d_law_beside) rfl; ⟨_, fd, fun_of F, He.glo_ok X G (c.fact 42 (f := .glo "_law_beside") rfl)⟩⟩
  t_law_told := ⟨let ⟨fd, F⟩ := c.def_ 43 (d := d_law_told) rfl; ⟨_, fd, fun_of F, He.glo_ok X G (c.fact 43 (f := .glo "_law_told") rfl)⟩⟩
  t_law_large := ⟨let ⟨fd, F⟩ := c.def_ 44 (d := d_law_large) rfl; ⟨_, fd, fun_of F, He.glo_ok X G (c.fact 44 (f := .glo "_law_large") rfl)⟩⟩
  t_law := ⟨let ⟨fd, F⟩ := c.def_ 45 (d := d_law) rfl; ⟨_, fd, fun_of F, He.glo_ok X G (c.fact 45 (f := .glo "law") rfl)⟩⟩
  cls_Work := He.cls_ok (c.fact 66 (f := .cls "Work") rfl)
  no_rows := He.noat_ok (c.fact 67 (f := .noat "Work" "rows") rfl)
  no_there := He.noat_ok (c.fact 68 (f := .noat "Work" "there") rfl)
  no_back := He.noat_ok (c.fact 69 (f := .noat "Work" "back") rfl)
  mg_Work := He.glo_ok X G (c.fact 75 (f := .glo "Work") rfl)
  in_Work := let ⟨fd, F⟩ := c.def_ 46 (d := d_Work_init) rfl; ⟨_, fd, fun_of F, He.mkr_ok (c.fact 74 (f := .mkr "Work") rfl)⟩
  m_swap := ⟨let ⟨fd, F⟩ := c.def_ 47 (d := d_Work_swap) rfl; ⟨_, fd, fun_of F, He.meth_ok (c.fact 70 (f := .meth "Work" "swap") rfl)⟩⟩
  m_turn := ⟨let ⟨fd, F⟩ := c.def_ 48 (d := d_Work_turn) rfl; ⟨_, fd, fun_of F, He.meth_ok (c.fact 71 (f := .meth "Work" "turn") rfl)⟩⟩
  m_take := ⟨let ⟨fd, F⟩ := c.def_ 49 (d := d_Work_take) rfl; ⟨_, fd, fun_of F, He.meth_ok (c.fact 72 (f := .meth "Work" "take") rfl)⟩⟩
  m_ways := ⟨let ⟨fd, F⟩ := c.def_ 50 (d := d_Work_ways) rfl; ⟨_, fd, fun_of F, He.meth_ok (c.fact 73 (f := .meth "Work" "ways") rfl)⟩⟩
  g_MOST_SIZE := He.int_ok X G (c.fact 64 (f := .int "MOST_SIZE" 8) rfl)
  g_MOST_NUMBER := He.int_ok X G (c.fact 65 (f := .int "MOST_NUMBER" 1000000) rfl)
  seer := N
  tree := ht }
theorem hfacts {P : Program} {w : World} {K : PySem.W.Frag} {h : Heap} {mg : Str → Option Value} {f : Addr} (X : K.In h) (G : h.Ns mainGlobals mg) (N : h.NoSeer) (ht : P.given.tree = none) (hfa' : mg ("law" : Str) = some (.ref f)) (c : TellsY w h K) :
    ∃ fd : FuncData, (∀ (s : Shared) (v : Value), BindsTo s fd ⟨[v], []⟩ [("script", v)]) ∧ ∀ base : Heap, K.In base → base.Ns mainGlobals mg → (∀ p ∈ [He.cT K hcl], LamX.TabB base mg p.1 p.2) → FnOk P w K mg base CX0 40 f fd ["script"] (@spLaw (wkOf K) K) := by
  have cd := c.t.d
  obtain ⟨fd, F⟩ := cd.def_ 45 (d := d_law) rfl
  have e := hfa'.symm.trans (He.glo_ok X G (cd.fact 45 (f := .glo "law") rfl))
  cases e
  have b := FunD.bindsA (ps := ["script"]) F fun _ _ _ _ _ _ us hl => match us, hl with | [_], _ => rfl
  exact ⟨fd, fun s v => b s [v] rfl, fun base KB GB TB => @ok_law (wkOf K) ⟨P, w, K, mg, base⟩ _ _ (hwd X G cd (TB _ (List.mem_singleton.mpr rfl)) (seer_of N X KB c.more GB (TB _ (List.mem_singleton.mpr rfl))) ht) (fun_of F)⟩
end Ab
open PySem PySem.W PySem.Calls PyProof.Rows
theorem PySem.Challenge.cw_multipliedout_k04_whole_hermite_by_minor_holds : PySem.Challenge.rw_multipliedout_k04_whole_hermite_by_minor.Holds := by
  w_on; o_law
  refine HandSHeadRun.head_any (r := OpenLaw.row PySem.Challenge.rw_multipliedout_k04_whole_hermite_by_minor) (q := view (OpenLaw.row PySem.Challenge.rw_multipliedout_k04_whole_hermite_by_minor).prog [55]) (H := Ab.hhk) (ob := Ab.hob) (M := 20000) (loose := Ab.hloose) (d := HandSHeadRun.topDef (OpenLaw.row PySem.Challenge.rw_multipliedout_k04_whole_hermite_by_minor).prog 55) (kwd := []) Ab.hob_eq
    (by kernel_rfl) (fun s => by kernel_rfl) Ab.hrun (by kernel_rfl) (by kernel_rfl) (by kernel_rfl) (by rfl) (by first | assumption | decide +kernel) (by decide +kernel) ⟨rfl, rfl, rfl, rfl, rfl, by decide +kernel⟩ ?hw ?hc
  case hw => w_witness2
  case hc =>
    refine Att.attach_callB (l := PySem.Challenge.rw_multipliedout_k04_whole_hermite_by_minor) (n := 63) rfl (by kernel_rfl) fun w s₀ s₁ mg mb fa u pm cd doc a vs ns G Y hu hd hcd hmg0 hobj hints hlen hbits hg => ?_
    obtain ⟨K, KX, c⟩ := Y
    have hmg : mg ("law" : PySem.Str) = some (.ref fa) := by
      have e : (HandSHeadRun.topDef (OpenLaw.row PySem.Challenge.rw_multipliedout_k04_whole_hermite_by_minor).prog 55).name = ("law" : PySem.Str) := by kernel_rfl
      rw [← e]
      exact hmg0
    obtain ⟨fd, hb, hF⟩ := Ab.hfacts (P := (PySem.Challenge.rw_multipliedout_k04_whole_hermite_by_minor).prog) (w := w) KX G.T.g (G.T.seer (by kernel_rfl)) rfl hmg c
    exact LamX.law_callTs (k := 40) (cs := [He.cT K Ab.hcl]) (sp := @Ab.spLaw (Ab.wkOf K) K) KX G.T.g G.T.b G.T.builtins G.T.nolimit hg
      (fun p hp => by
        obtain rfl := List.mem_singleton.mp hp
        exact c.empty _ (List.mem_singleton.mpr rfl))
      (fun p hp => by
        obtain rfl := List.mem_singleton.mp hp
        exact c.out _ (List.mem_singleton.mpr rfl))
      (fun p hp => by
        obtain rfl := List.mem_singleton.mp hp
        exact codeHd_of_K KX (c.hd _ (List.mem_singleton.mpr rfl)))
      G.T.bmain hobj hints (Nat.le_trans hlen (by decide)) ⟨rfl, by decide, by decide⟩ hF hb
      (fun H hH hS => ⟨a, ns, rfl, hS, hlen, fun p hp => by
        obtain rfl := List.mem_singleton.mp hp
        exact LamX.TabS.nil (hH _ (List.mem_singleton.mpr rfl)), fun _ => rfl⟩)
      fun _ _ _ z => z
