import PyProof.Rows.All
import Wide.All
import OpenK.AllK
import Wide.FinOn
import PyProof.EqAt
import PyProof.EqKinds
import PyProof.TupleCall
import KE.KStateDown
import HandS.Base
import HandS.Call
import HandS.List
import HandS.Comp
import HandS.Lambda
import HandS.Exc
import HandS.ExcOwn
import HandS.Words
import HandS.WordsList
import HandS.TupAny
import HandS.TupMul
import HandS.Wide
import HandS.IsInst
import HandS.Style
import HandS.Dict
import HandS.Iter
import HandS.Zip
import HandS.More
import HandS.TupLe
import HandS.Conv
import HandS.Rev
import PyProof.ListRange
import HandS.Deep
import KE.GoesEnum
import PyProof.StrOps2
import HandS.Nested
import HandS.SortKw
import KE.KMinKey
import KE.KSuper
import KE.KExcSuper
import HandS.ExcInit
import HandS.ExcSuper
import HandS.ExcCtx
import HandS.HotCalls
import HandS.ExcIs
import HandS.ExcField
import KE.KExcIs
import PyProof.CallFns
import HandS.RaiseMore
import KE.GoesZip
import KE.GoesMore
import HandS.Ends
import HandS.WordsExc
import HandS.Defaults
import HandS.Head0
import HandS.Head1
import HandS.Head2
import HandS.HeadEnd
import HandS.HeadHook1
import HandS.HeadHook2
import HandS.HeadHook3
import HandS.HeadHook4
import HandS.EndBits
import HandS.EndTab
import HandS.HeadWalk
import PySem.Challenge.RW_multipliedout_k30_members_and_remainders
set_option Elab.async false
set_option linter.all false
set_option maxRecDepth 100000
set_option maxHeartbeats 4000000
section
set_option autoImplicit false
/-! Ab: a machine of plain data over the hand layer. Data never change; lists that do are numbered cells. -/
namespace Ab
open PySem PySem.Spec PyProof.Rows L2

inductive D where
  | non | bl (b : Bool) | int (i : Int) | str (s : Str) | tup (ds : List D) | lst (ds : List D) | dct (ks : List Key) (ds : List D)

mutual
inductive Rep (I : Hp) : D → V → Prop
  | non : Rep I .non .non
  | bl (b : Bool) : Rep I (.bl b) (.bl b)
  | int (i : Int) : Rep I (.int i) (.int i)
  | str (s : Str) : Rep I (.str s) (.str s)
  | tup {a : Addr} {xs : List V} {ds : List D} (h : I a = some (.tup xs)) (r : Reps I ds xs) : Rep I (.tup ds) (.ref a)
  | lst {a : Addr} {xs : List V} {ds : List D} (h : I a = some (.lst xs)) (r : Reps I ds xs) : Rep I (.lst ds) (.ref a)
  | dct {a : Addr} {kvs : List (Key × V)} {ds : List D} (h : I a = some (.dK kvs)) (r : Reps I ds (kvs.map (·.2))) : Rep I (.dct (kvs.map (·.1)) ds) (.ref a)
inductive Reps (I : Hp) : List D → List V → Prop
  | nil : Reps I [] []
  | cons {d : D} {ds : List D} {v : V} {vs : List V} (h : Rep I d v) (r : Reps I ds vs) : Reps I (d :: ds) (v :: vs)
end

def Ex (H H' : Hp) : Prop := ∀ a o, H a = some o → H' a = some o
theorem Ex.refl (H : Hp) : Ex H H := fun _ _ h => h
theorem Ex.trans {H H1 H2 : Hp} (a : Ex H H1) (b : Ex H1 H2) : Ex H H2 := fun x o h => b x o (a x o h)
theorem Ex.non {I H : Hp} {p : Addr} (e : Ex I H) (h : H p = none) : I p = none := by
  cases q : I p with
  | none => rfl
  | some o =>
    rw [e p o q] at h
    cases h
theorem Ex.new {H : Hp} {p : Addr} {o : HO} (h : H p = none) : Ex H (upd H p o) := fun a u e => by
  rw [upd_ne (ne_of_none e h)]
  exact e
theorem Ex.mut {I H : Hp} {p : Addr} {o : HO} (e : Ex I H) (h : I p = none) : Ex I (upd H p o) := fun a u ha => by
  rw [upd_ne (ne_of_none ha h)]
  exact e a u ha
theorem Ex.upd {I H : Hp} {p : Addr} {o : HO} (e : Ex I H) : Ex (upd I p o) (upd H p o) := fun a u ha => by
  by_cases h : a = p
  · subst h
    rw [upd_same] at ha ⊢
    exact ha
  · rw [upd_ne h] at ha ⊢
    exact e a u ha

mutual
theorem Rep.mono {I I' : Hp} (e : Ex I I') : ∀ {d : D} {v : V}, Rep I d v → Rep I' d v
  | _, _, .non => .non
  | _, _, .bl b => .bl b
  | _, _, .int i => .int i
  | _, _, .str s => .str s
  | _, _, .tup h r => .tup (e _ _ h) (Reps.mono e r)
  | _, _, .lst h r => .lst (e _ _ h) (Reps.mono e r)
  | _, _, .dct h r => .dct (e _ _ h) (Reps.mono e r)
theorem Reps.mono {I I' : Hp} (e : Ex I I') : ∀ {ds : List D} {vs : List V}, Reps I ds vs → Reps I' ds vs
  | _, _, .nil => .nil
  | _, _, .cons h r => .cons (Rep.mono e h) (Reps.mono e r)
end
theorem Reps.length {I : Hp} : ∀ {ds : List D} {vs : List V}, Reps I ds vs → ds.length = vs.length
  | _, _, .nil => rfl
  | _, _, .cons _ r => by rw [List.length_cons, List.length_cons, Reps.length r]
theorem Reps.get {I : Hp} : ∀ {ds : List D} {vs : List V} {i : Nat} {d : D}, Reps I ds vs → ds[i]? = some d → ∃ v, vs[i]? = some v ∧ Rep I d v
  | _, _, _, _, .nil, e => by simp at e
  | _, _, 0, _, .cons h _, e => by
    simp at e
    subst e
    exact ⟨_, rfl, h⟩
  | _, _, i + 1, _, .cons _ r, e => by
    obtain ⟨v, h1, h2⟩ := Reps.get (i := i) r (by simpa using e)
    exact ⟨v, by simpa using h1, h2⟩
theorem Reps.append {I : Hp} : ∀ {ds es : List D} {vs ws : List V}, Reps I ds vs → Reps I es ws → Reps I (ds ++ es) (vs ++ ws)
  | _, _, _, _, .nil, s => s
  | _, _, _, _, .cons h r, s => .cons h (Reps.append r s)
theorem Reps.take {I : Hp} : ∀ {ds : List D} {vs : List V} (n : Nat), Reps I ds vs → Reps I (ds.take n) (vs.take n)
  | _, _, 0, _ => .nil
  | _, _, _ + 1, .nil => .nil
  | _, _, n + 1, .cons h r => .cons h (Reps.take n r)
theorem Reps.drop {I : Hp} : ∀ {ds : List D} {vs : List V} (n : Nat), Reps I ds vs → Reps I (ds.drop n) (vs.drop n)
  | _, _, 0, r => r
  | _, _, _ + 1, .nil => .nil
  | _, _, n + 1, .cons _ r => Reps.drop n r
theorem Reps.reverse {I : Hp} : ∀ {ds : List D} {vs : List V}, Reps I ds vs → Reps I ds.reverse vs.reverse
  | _, _, .nil => .nil
  | _, _, .cons h r => by
    rw [List.reverse_cons, List.reverse_cons]
    exact Reps.append (Reps.reverse r) (.cons h .nil)
theorem Reps.rep {I : Hp} {ds : List D} {vs : List V} (h : Reps I ds vs) : ∀ n : Nat, Reps I (List.replicate n ds).flatten (List.replicate n vs).flatten
  | 0 => .nil
  | n + 1 => by
    rw [List.replicate_succ, List.replicate_succ, List.flatten_cons, List.flatten_cons]
    exact Reps.append h (Reps.rep h n)

/-! ### slots, cells -/
inductive O where
  | no | dat (d : D) | adr (k : Nat) | scr (a : Addr) (u : Option HO) | obj (C : Addr) (fs : List (Str × Nat))
abbrev Mem := List (Option (List O))

theorem prUn {α β γ : Type} {F : β → γ → Prop} {m : α → β} : ∀ {l : List α} {k : List γ}, Paired F (l.map m) k → Paired (fun a c => F (m a) c) l k
  | [], _, .nil => .nil
  | _ :: _, _, .cons h r => .cons h (prUn r)
theorem prImp {α β : Type} {F G : α → β → Prop} : ∀ {l : List α} {k : List β}, Paired F l k → (∀ a ∈ l, ∀ b, F a b → G a b) → Paired G l k
  | _, _, .nil, _ => .nil
  | _, _, .cons h r, q => .cons (q _ List.mem_cons_self _ h) (prImp r fun a ha => q a (List.mem_cons_of_mem _ ha))
theorem prLeft {α β : Type} {F : α → β → Prop} : ∀ {l : List α} {k : List β}, Paired F l k → ∀ a ∈ l, ∃ b, F a b
  | _, _, .cons h r, a, ha => by
    rcases List.mem_cons.mp ha with e | e
    · subst e
      exact ⟨_, h⟩
    · exact prLeft r a e
theorem prDo {α β γ : Type} {F : β → γ → Prop} {m : α → β} : ∀ {l : List α} {k : List γ}, Paired (fun a c => F (m a) c) l k → Paired F (l.map m) k
  | [], _, .nil => .nil
  | _ :: _, _, .cons h r => .cons h (prDo r)
theorem prMap {α β : Type} {F G : α → β → Prop} {l : List α} {k : List β} (h : Paired F l k) (q : ∀ a b, F a b → G a b) : Paired G l k := prImp h fun a _ b z => q a b z
def Vo (I : Hp) (adr : List Addr) : O → V → Prop
  | .no, _ => True
  | .dat d, v => Rep I d v
  | .adr k, v => ∃ a, adr[k]? = some a ∧ v = .ref a
  | .scr a u, v => v = .ref a ∧ ∀ o, u = some o → I a = some o
  | .obj C fs, v => ∃ p dx gs, v = .ref p ∧ I p = some (.ins C dx gs) ∧ Paired (fun (f : Str × Nat) (g : Str × V) => f.1 = g.1 ∧ ∃ a, adr[f.2]? = some a ∧ g.2 = .ref a) fs gs
def Vso (I : Hp) (adr : List Addr) (o : O) (ov : Option V) : Prop := match ov with
  | some v => Vo I adr o v
  | none => o = .no
abbrev Vs (I : Hp) (adr : List Addr) : List O → List V → Prop := Paired (Vo I adr)

/-- the tables of code objects that grow -/
class TabCtx where
  T : List (Addr × Str)
/-- all but such tables -/
def NT (u : HO) : Prop := ∀ ps, u ≠ .tbl ps
theorem NT.lst {xs : List V} : NT (.lst xs) := fun _ z => by cases z
theorem NT.tup {xs : List V} : NT (.tup xs) := fun _ z => by cases z
theorem NT.dK {xs : List (Key × V)} : NT (.dK xs) := fun _ z => by cases z
variable [TabCtx]
structure Amb (I H : Hp) : Prop where
  tabs : LamX.Tabs TabCtx.T H
  nt : ∀ a u, I a = some u → NT u
theorem Amb.same {I I' H : Hp} (a : Amb I H) (h : ∀ b u, I' b = some u → NT u) : Amb I' H := ⟨a.tabs, h⟩
theorem Amb.new {I H : Hp} {p : Addr} {o : HO} (a : Amb I H) (hp : H p = none) : Amb I (upd H p o) := ⟨a.tabs.ext fun b u h => by rw [upd_ne (ne_of_none h hp)]; exact h, a.nt⟩
theorem Amb.ext {I H : Hp} {p : Addr} {o : HO} (a : Amb I H) (hp : H p = none) (ho : NT o) : Amb (upd I p o) (upd H p o) := ⟨(a.new hp).tabs, fun b u h => by
  by_cases e : b = p
  · subst e
    rw [upd_same] at h
    cases h
    exact ho
  · rw [upd_ne e] at h
    exact a.nt b u h⟩
theorem Amb.wri {I H : Hp} {p : Addr} {xs ys : List V} (a : Amb I H) (hp : H p = some (.lst xs)) : Amb I (upd H p (.lst ys)) := ⟨fun q hq => by
  obtain ⟨ps, h1, h2, h3⟩ := a.tabs q hq
  have ne : ∀ b u, H b = some u → (∀ zs, u ≠ .lst zs) → b ≠ p := fun b u h n z => by
    rw [z, hp] at h
    exact n xs (Option.some.inj h).symm
  refine ⟨ps, by rw [upd_ne (ne _ _ h1 (fun _ z => by cases z))]; exact h1, h2, fun pos cv hc => ?_⟩
  obtain ⟨c, e1, e2⟩ := h3 pos cv hc
  exact ⟨c, e1, by rw [upd_ne (ne _ _ e2 (fun _ z => by unfold LamX.CodeO at z; cases z))]; exact e2⟩, a.nt⟩
structure Sto (I H : Hp) (adr : List Addr) (M : Mem) : Prop where
  len : adr.length = M.length
  nd : adr.Nodup
  cell : ∀ (k : Nat) (a : Addr) (os : List O), adr[k]? = some a → M[k]? = some (some os) → I a = none ∧ ∃ xs, H a = some (.lst xs) ∧ Vs I adr os xs
  dom : ∀ (k : Nat) (a : Addr), adr[k]? = some a → ∃ u, H a = some u ∧ NT u
  amb : Amb I H
structure Stt (I H : Hp) (adr : List Addr) (σ : L2.St) (E : List O) (M : Mem) : Prop where
  ex : Ex I H
  sto : Sto I H adr M
  len : E.length = σ.length
  slot : ∀ (i : Nat) (o : O) (ov : Option V), E[i]? = some o → σ[i]? = some ov → Vso I adr o ov
def Frs (H : Hp) (p : Addr) : Prop := ∀ u, H p = some u → ¬ NT u
theorem Frs.of {H : Hp} {p : Addr} (h : H p = none) : Frs H p := fun u e => by rw [h] at e; cases e
structure Grow (I H : Hp) (adr : List Addr) (I' H' : Hp) (adr' : List Addr) : Prop where
  ex : Ex I I'
  new : ∃ nw, adr' = adr ++ nw ∧ ∀ p ∈ nw, Frs H p
  keep : ∀ p u, H p = some u → NT u → p ∉ adr → H' p = some u
  dom : ∀ p u, H p = some u → NT u → ∃ u', H' p = some u' ∧ NT u'
  out : ∀ p u, H p = some u → NT u → I p = none → p ∉ adr → I' p = none
  code : ∀ c q, H c = some (LamX.CodeO c q) → H' c = some (LamX.CodeO c q)

section
variable {I H I1 H1 I2 H2 I' H' : Hp} {adr adr1 adr2 adr' : List Addr} {σ : L2.St} {E : List O} {M M' : Mem}
theorem Grow.refl : Grow I H adr I H adr := ⟨Ex.refl _, ⟨[], by simp, by simp⟩, fun _ _ h _ _ => h, fun _ u h n => ⟨u, h, n⟩, fun _ _ _ _ h _ => h, fun _ _ h => h⟩
theorem Grow.trans (a : Grow I H adr I1 H1 adr1) (b : Grow I1 H1 adr1 I2 H2 adr2) : Grow I H adr I2 H2 adr2 := by
  obtain ⟨nw, rfl, hn⟩ := a.new
  obtain ⟨nv, rfl, hv⟩ := b.new
  have nin : ∀ p u, H p = some u → NT u → p ∉ adr → p ∉ adr ++ nw := fun p u h n q z => by
    rcases List.mem_append.mp z with z | z
    · exact q z
    · exact hn p z u h n
  refine ⟨a.ex.trans b.ex, ⟨nw ++ nv, by rw [List.append_assoc], fun p hp => ?_⟩, fun p u h n q => b.keep p u (a.keep p u h n q) n (nin p u h n q), fun p u h n => ?_, fun p u h n q r => b.out p u (a.keep p u h n r) n (a.out p u h n q r) (nin p u h n r), fun c q h => b.code c q (a.code c q h)⟩
  · rcases List.mem_append.mp hp with z | z
    · exact hn p z
    · intro u q n
      obtain ⟨u', e, n'⟩ := a.dom p u q n
      exact hv p z u' e n'
  · obtain ⟨u', e, n'⟩ := a.dom p u h n
    exact b.dom p u' e n'
theorem Grow.get (g : Grow I H adr I' H' adr') {k : Nat} {a : Addr} (h : adr[k]? = some a) : adr'[k]? = some a := by
  obtain ⟨nw, rfl, _⟩ := g.new
  rw [List.getElem?_append_left (List.getElem?_eq_some_iff.mp h).1]
  exact h
theorem Vo.mono (g : Grow I H adr I' H' adr') : ∀ {o : O} {v : V}, Vo I adr o v → Vo I' adr' o v
  | .no, _, _ => True.intro
  | .dat _, _, h => Rep.mono g.ex h
  | .adr _, _, h => by
    obtain ⟨a, h1, h2⟩ := h
    exact ⟨a, g.get h1, h2⟩
  | .scr _ _, _, h => ⟨h.1, fun o q => g.ex _ _ (h.2 o q)⟩
  | .obj _ _, _, h => by
    obtain ⟨p, dx, gs, h1, h2, h3⟩ := h
    exact ⟨p, dx, gs, h1, g.ex _ _ h2, prMap h3 fun f g' q => ⟨q.1, let ⟨a, e1, e2⟩ := q.2; ⟨a, g.get e1, e2⟩⟩⟩
theorem Vo.ext (e : Ex I I') : ∀ {o : O} {v : V}, Vo I adr o v → Vo I' adr o v
  | .no, _, _ => True.intro
  | .dat _, _, h => Rep.mono e h
  | .adr _, _, h => h
  | .scr _ _, _, h => ⟨h.1, fun o q => e _ _ (h.2 o q)⟩
  | .obj _ _, _, h => by
    obtain ⟨p, dx, gs, h1, h2, h3⟩ := h
    exact ⟨p, dx, gs, h1, e _ _ h2, h3⟩
theorem Vo.more {nw : List Addr} : ∀ {o : O} {v : V}, Vo I adr o v → Vo I (adr ++ nw) o v
  | .no, _, _ => True.intro
  | .dat _, _, h => h
  | .adr _, _, h => by
    obtain ⟨a, h1, h2⟩ := h
    exact ⟨a, by rw [List.getElem?_append_left (List.getElem?_eq_some_iff.mp h1).1]; exact h1, h2⟩
  | .scr _ _, _, h => h
  | .obj _ _, _, h => by
    obtain ⟨p, dx, gs, h1, h2, h3⟩ := h
    exact ⟨p, dx, gs, h1, h2, prMap h3 fun f g' q => ⟨q.1, let ⟨a, e1, e2⟩ := q.2; ⟨a, by rw [List.getElem?_append_left (List.getElem?_eq_some_iff.mp e1).1]; exact e1, e2⟩⟩⟩
theorem Vs.mono (g : Grow I H adr I' H' adr') : ∀ {os : List O} {vs : List V}, Vs I adr os vs → Vs I' adr' os vs
  | _, _, .nil => .nil
  | _, _, .cons h r => .cons (Vo.mono g h) (Vs.mono g r)
theorem Vs.ext (e : Ex I I') : ∀ {os : List O} {vs : List V}, Vs I adr os vs → Vs I' adr os vs
  | _, _, .nil => .nil
  | _, _, .cons h r => .cons (Vo.ext e h) (Vs.ext e r)
theorem Vs.more {nw : List Addr} : ∀ {os : List O} {vs : List V}, Vs I adr os vs → Vs I (adr ++ nw) os vs
  | _, _, .nil => .nil
  | _, _, .cons h r => .cons (Vo.more h) (Vs.more r)
theorem Vs.app : ∀ {os ps : List O} {vs ws : List V}, Vs I adr os vs → Vs I adr ps ws → Vs I adr (os ++ ps) (vs ++ ws)
  | _, _, _, _, .nil, s => s
  | _, _, _, _, .cons h r, s => .cons h (Vs.app r s)
theorem Vs.length {os : List O} {vs : List V} (h : Vs I adr os vs) : os.length = vs.length := Paired.length h
theorem Vs.get : ∀ {os : List O} {vs : List V} {i : Nat} {o : O}, Vs I adr os vs → os[i]? = some o → ∃ v, vs[i]? = some v ∧ Vo I adr o v
  | _, _, _, _, .nil, e => by simp at e
  | _, _, 0, _, .cons h _, e => by
    simp at e
    subst e
    exact ⟨_, rfl, h⟩
  | _, _, i + 1, _, .cons _ r, e => by
    obtain ⟨v, h1, h2⟩ := Vs.get (i := i) r (by simpa using e)
    exact ⟨v, by simpa using h1, h2⟩
theorem Vs.set {o : O} {v : V} (h : Vo I adr o v) : ∀ {os : List O} {vs : List V} (i : Nat), Vs I adr os vs → Vs I adr (os.set i o) (vs.set i v)
  | _, _, _, .nil => .nil
  | _, _, 0, .cons _ r => .cons h r
  | _, _, i + 1, .cons q r => .cons q (Vs.set h i r)
theorem Vs.take : ∀ {os : List O} {vs : List V} (n : Nat), Vs I adr os vs → Vs I adr (os.take n) (vs.take n)
  | _, _, 0, _ => .nil
  | _, _, _ + 1, .nil => .nil
  | _, _, n + 1, .cons h r => .cons h (Vs.take n r)
theorem Vs.drop : ∀ {os : List O} {vs : List V} (n : Nat), Vs I adr os vs → Vs I adr (os.drop n) (vs.drop n)
  | _, _, 0, r => r
  | _, _, _ + 1, .nil => .nil
  | _, _, n + 1, .cons _ r => Vs.drop n r
theorem Vs.dropLast : ∀ {os : List O} {vs : List V}, Vs I adr os vs → Vs I adr os.dropLast vs.dropLast
  | _, _, .nil => .nil
  | _, _, .cons _ .nil => .nil
  | _, _, .cons h (.cons h2 r) => .cons h (Vs.dropLast (.cons h2 r))
theorem Vs.reps : ∀ {ds : List D} {vs : List V}, Reps I ds vs → Vs I adr (ds.map .dat) vs
  | _, _, .nil => .nil
  | _, _, .cons h r => .cons h (Vs.reps r)
theorem Vs.to : ∀ {ds : List D} {vs : List V}, Vs I adr (ds.map .dat) vs → Reps I ds vs
  | [], _, .nil => .nil
  | _ :: _, _, .cons h r => .cons h (Vs.to r)
theorem Vso.mono (g : Grow I H adr I' H' adr') {o : O} : ∀ {ov : Option V}, Vso I adr o ov → Vso I' adr' o ov
  | some _, h => Vo.mono g h
  | none, h => h
theorem Stt.mono (s : Stt I H adr σ E M) (g : Grow I H adr I' H' adr') (e : Ex I' H') (t : Sto I' H' adr' M') : Stt I' H' adr' σ E M' :=
  ⟨e, t, s.len, fun i o ov h1 h2 => (s.slot i o ov h1 h2).mono g⟩
theorem Stt.inB (s : Stt I H adr σ E M) {k : Nat} {a : Addr} (h : adr[k]? = some a) : k < M.length := by
  rw [← s.sto.len]
  exact (List.getElem?_eq_some_iff.mp h).1
/-- a new thing that never changes -/
theorem Sto.ext {o : HO} {p : Addr} (t : Sto I H adr M) (hi : I p = none) (hp : H p = none) (ho : NT o) : Sto (upd I p o) (upd H p o) adr M := by
  have ne : ∀ (k : Nat) (a : Addr), adr[k]? = some a → a ≠ p := fun k a h => by
    obtain ⟨u, e, _⟩ := t.dom k a h
    exact ne_of_none e hp
  refine ⟨t.len, t.nd, fun k a os h1 h2 => ?_, fun k a h => ?_, t.amb.ext hp ho⟩
  · obtain ⟨h3, xs, h4, h5⟩ := t.cell k a os h1 h2
    refine ⟨by rw [upd_ne (ne k a h1)]; exact h3, xs, by rw [upd_ne (ne k a h1)]; exact h4, ?_⟩
    exact h5.ext (Ex.new hi)
  · obtain ⟨u, e, n⟩ := t.dom k a h
    exact ⟨u, by rw [upd_ne (ne k a h)]; exact e, n⟩
theorem Grow.ext {o : HO} {p : Addr} (hi : I p = none) (hp : H p = none) : Grow I H adr (upd I p o) (upd H p o) adr := by
  refine ⟨Ex.new hi, ⟨[], by simp, by simp⟩, fun q u h _ _ => ?_, fun q u h n => ⟨u, ?_, n⟩, fun q u h _ h2 _ => ?_, fun c q h => by rw [upd_ne (ne_of_none h hp)]; exact h⟩
  · rw [upd_ne (ne_of_none h hp)]; exact h
  · rw [upd_ne (ne_of_none h hp)]; exact h
  · rw [upd_ne (ne_of_none h hp)]; exact h2
theorem Stt.ext {o : HO} {p : Addr} (s : Stt I H adr σ E M) (hp : H p = none) (ho : NT o) : Stt (upd I p o) (upd H p o) adr σ E M ∧ Grow I H adr (upd I p o) (upd H p o) adr := by
  have hi := s.ex.non hp
  have g : Grow I H adr (upd I p o) (upd H p o) adr := Grow.ext hi hp
  exact ⟨s.mono g s.ex.upd (s.sto.ext hi hp ho), g⟩
theorem Stt.tup {p : Addr} {xs : List V} {ds : List D} (s : Stt I H adr σ E M) (hp : H p = none) (r : Reps I ds xs) :
    Stt (upd I p (.tup xs)) (upd H p (.tup xs)) adr σ E M ∧ Grow I H adr (upd I p (.tup xs)) (upd H p (.tup xs)) adr ∧ Rep (upd I p (.tup xs)) (.tup ds) (.ref p) :=
  let ⟨a, b⟩ := s.ext (o := .tup xs) hp NT.tup
  ⟨a, b, .tup upd_same (r.mono b.ex)⟩
theorem Stt.lst {p : Addr} {xs : List V} {ds : List D} (s : Stt I H adr σ E M) (hp : H p = none) (r : Reps I ds xs) :
    Stt (upd I p (.lst xs)) (upd H p (.lst xs)) adr σ E M ∧ Grow I H adr (upd I p (.lst xs)) (upd H p (.lst xs)) adr ∧ Rep (upd I p (.lst xs)) (.lst ds) (.ref p) :=
  let ⟨a, b⟩ := s.ext (o := .lst xs) hp NT.lst
  ⟨a, b, .lst upd_same (r.mono b.ex)⟩
/-- a new cell -/
theorem Stt.cel {p : Addr} {xs : List V} {os : List O} (s : Stt I H adr σ E M) (hp : H p = none) (r : Vs I adr os xs) :
    Stt I (upd H p (.lst xs)) (adr ++ [p]) σ E (M ++ [some os]) ∧ Grow I H adr I (upd H p (.lst xs)) (adr ++ [p]) ∧ (adr ++ [p])[M.length]? = some p := by
  have hi := s.ex.non hp
  have ne : ∀ (k : Nat) (a : Addr), adr[k]? = some a → a ≠ p := fun k a h => by
    obtain ⟨u, e, _⟩ := s.sto.dom k a h
    exact ne_of_none e hp
  have g : Grow I H adr I (upd H p (.lst xs)) (adr ++ [p]) := by
    refine ⟨Ex.refl _, ⟨[p], rfl, fun q hq => by rw [List.mem_singleton.mp hq]; exact Frs.of hp⟩, fun q u h _ _ => ?_, fun q u h n => ⟨u, ?_, n⟩, fun q u h _ h2 _ => h2, fun c q h => by rw [upd_ne (ne_of_none h hp)]; exact h⟩
    · rw [upd_ne (ne_of_none h hp)]; exact h
    · rw [upd_ne (ne_of_none h hp)]; exact h
  have at_p : (adr ++ [p])[M.length]? = some p := by
    rw [← s.sto.len, List.getElem?_append_right (Nat.le_refl _), Nat.sub_self]
    rfl
  have old : ∀ (k : Nat) (a : Addr), (adr ++ [p])[k]? = some a → (k < adr.length ∧ adr[k]? = some a) ∨ (k = adr.length ∧ a = p) := fun k a h => by
    by_cases hk : k < adr.length
    · rw [List.getElem?_append_left hk] at h
      exact .inl ⟨hk, h⟩
    · rw [List.getElem?_append_right (Nat.le_of_not_lt hk)] at h
      have hk2 : k - adr.length = 0 := by
        have := (List.getElem?_eq_some_iff.mp h).1
        simp at this
        omega
      rw [hk2] at h
      simp at h
      exact .inr ⟨by omega, h.symm⟩
  refine ⟨s.mono g (s.ex.mut hi) ⟨by simp [s.sto.len], ?_, fun k a os' h1 h2 => ?_, fun k a h => ?_, s.sto.amb.new hp⟩, g, at_p⟩
  · rw [List.nodup_append]
    refine ⟨s.sto.nd, by simp, fun a ha b hb z => ?_⟩
    obtain ⟨k, hk⟩ := List.getElem?_of_mem ha
    rw [List.mem_singleton] at hb
    exact ne k a hk (z.trans hb)
  · rcases old k a h1 with ⟨hk, h3⟩ | ⟨hk, rfl⟩
    · rw [List.getElem?_append_left (by rw [← s.sto.len]; exact hk)] at h2
      obtain ⟨c1, ys, c2, c3⟩ := s.sto.cell k a os' h3 h2
      exact ⟨c1, ys, by rw [upd_ne (ne k a h3)]; exact c2, c3.more⟩
    · rw [hk, s.sto.len, List.getElem?_append_right (Nat.le_refl _), Nat.sub_self] at h2
      have e : os = os' := by simpa using h2
      subst e
      exact ⟨hi, xs, upd_same, r.more⟩
  · rcases old k a h with ⟨hk, h3⟩ | ⟨hk, rfl⟩
    · obtain ⟨u, e, n⟩ := s.sto.dom k a h3
      exact ⟨u, by rw [upd_ne (ne k a h3)]; exact e, n⟩
    · exact ⟨_, upd_same, NT.lst⟩
/-- a cell is written -/
theorem Stt.wri {k : Nat} {a : Addr} {xs : List V} {os os0 : List O} (s : Stt I H adr σ E M) (ha : adr[k]? = some a) (hm : M[k]? = some (some os0)) (r : Vs I adr os xs) :
    Stt I (upd H a (.lst xs)) adr σ E (M.set k (some os)) ∧ Grow I H adr I (upd H a (.lst xs)) adr := by
  obtain ⟨hi, ys, hy, _⟩ := s.sto.cell k a os0 ha hm
  have hin : a ∈ adr := List.mem_of_getElem? ha
  have g : Grow I H adr I (upd H a (.lst xs)) adr := by
    refine ⟨Ex.refl _, ⟨[], by simp, by simp⟩, fun q u h _ hq => ?_, fun q u h n => ?_, fun q u h _ h2 _ => h2, fun c q h => by rw [upd_ne (fun z => by rw [z, hy] at h; unfold LamX.CodeO at h; cases h)]; exact h⟩
    · rw [upd_ne (fun z => hq (by rw [z]; exact hin))]; exact h
    · by_cases z : q = a
      · subst z; exact ⟨_, upd_same, NT.lst⟩
      · exact ⟨u, by rw [upd_ne z]; exact h, n⟩
  have uniq : ∀ (j : Nat) (b : Addr), adr[j]? = some b → j ≠ k → b ≠ a := fun j b hb hj z => by
    subst z
    exact hj (List.getElem?_inj (List.getElem?_eq_some_iff.mp hb).1 s.sto.nd |>.mp (hb.trans ha.symm))
  refine ⟨s.mono g (s.ex.mut hi) ⟨by rw [List.length_set]; exact s.sto.len, s.sto.nd, fun j b ps h1 h2 => ?_, fun j b h => ?_, s.sto.amb.wri hy⟩, g⟩
  · by_cases hj : j = k
    · subst hj
      rw [h1] at ha
      cases ha
      rw [List.getElem?_set_self (s.inB h1)] at h2
      have e : os = ps := by simpa using h2
      subst e
      exact ⟨hi, xs, upd_same, r⟩
    · rw [List.getElem?_set_ne (fun z => hj z.symm)] at h2
      obtain ⟨c1, zs, c2, c3⟩ := s.sto.cell j b ps h1 h2
      exact ⟨c1, zs, by rw [upd_ne (uniq j b h1 hj)]; exact c2, c3⟩
  · by_cases z : b = a
    · subst z; exact ⟨_, upd_same, NT.lst⟩
    · obtain ⟨u, e, n⟩ := s.sto.dom j b h
      exact ⟨u, by rw [upd_ne z]; exact e, n⟩
/-- a cell of data is frozen -/
theorem Stt.frz {k : Nat} {a : Addr} {ds : List D} (s : Stt I H adr σ E M) (ha : adr[k]? = some a) (hm : M[k]? = some (some (ds.map .dat))) :
    ∃ I', Stt I' H adr σ E (M.set k none) ∧ Grow I H adr I' H adr ∧ Rep I' (.lst ds) (.ref a) := by
  obtain ⟨hi, ys, hy, hr⟩ := s.sto.cell k a _ ha hm
  have hin : a ∈ adr := List.mem_of_getElem? ha
  have g : Grow I H adr (upd I a (.lst ys)) H adr := by
    refine ⟨Ex.new hi, ⟨[], by simp, by simp⟩, fun q u h _ hq => h, fun q u h n => ⟨u, h, n⟩, fun q u h _ h2 hq => ?_, fun _ _ h => h⟩
    rw [upd_ne (fun z => hq (by rw [z]; exact hin))]; exact h2
  have ex : Ex (upd I a (.lst ys)) H := fun q u h => by
    by_cases z : q = a
    · subst z; rw [upd_same] at h; cases h; exact hy
    · rw [upd_ne z] at h; exact s.ex q u h
  refine ⟨upd I a (.lst ys), s.mono g ex ⟨by rw [List.length_set]; exact s.sto.len, s.sto.nd, fun j b ps h1 h2 => ?_, s.sto.dom, s.sto.amb.same fun b u h => ?_⟩, g, .lst upd_same (hr.to.mono g.ex)⟩
  · by_cases hj : j = k
    · subst hj
      rw [List.getElem?_set_self (s.inB h1)] at h2
      cases h2
    · rw [List.getElem?_set_ne (fun z => hj z.symm)] at h2
      obtain ⟨c1, zs, c2, c3⟩ := s.sto.cell j b ps h1 h2
      have ne : b ≠ a := fun z => by
        subst z
        exact hj (List.getElem?_inj (List.getElem?_eq_some_iff.mp h1).1 s.sto.nd |>.mp (h1.trans ha.symm))
      exact ⟨by rw [upd_ne ne]; exact c1, zs, c2, c3.ext g.ex⟩
  · by_cases e : b = a
    · subst e
      rw [upd_same] at h
      cases h
      exact NT.lst
    · rw [upd_ne e] at h
      exact s.sto.amb.nt b u h
theorem Stt.set {i : Nat} {o : O} {v : V} (s : Stt I H adr σ E M) (h : Vo I adr o v) : Stt I H adr (σ.set i (some v)) (E.set i o) M := by
  refine ⟨s.ex, s.sto, by rw [List.length_set, List.length_set]; exact s.len, fun j p ov h1 h2 => ?_⟩
  by_cases hj : j = i
  · subst hj
    by_cases hl : j < E.length
    · rw [List.getElem?_set_self hl] at h1
      rw [List.getElem?_set_self (by rw [← s.len]; exact hl)] at h2
      cases h1
      cases h2
      exact h
    · have := (List.getElem?_eq_some_iff.mp h1).1
      rw [List.length_set] at this
      exact absurd this hl
  · rw [List.getElem?_set_ne (fun z => hj z.symm)] at h1 h2
    exact s.slot j p ov h1 h2
theorem Stt.frame {k : Nat} (s : Stt I H adr σ E M) : Stt I H adr [] [] M := ⟨s.ex, s.sto, rfl, fun i o ov h _ => by simp at h⟩
end
end Ab
/-! Ab: judgements. -/
namespace Ab
open PySem PySem.Spec PyProof.Rows L2
variable [TabCtx]

/-! ### readings -/
def Ev (t : TE) (E : List O) (M : Mem) (o : O) (M' : Mem) : Prop :=
  ∀ (I H : Hp) (adr : List Addr) (σ : L2.St) (Q : VK), Stt I H adr σ E M → (∀ v I' H' adr', Stt I' H' adr' σ E M' → Grow I H adr I' H' adr' → Vo I' adr' o v → Q v H') → t σ H Q
def Et (t : TT) (E : List O) (M : Mem) (b : Bool) (M' : Mem) : Prop :=
  ∀ (I H : Hp) (adr : List Addr) (σ : L2.St) (Q : Bool → Hp → Prop), Stt I H adr σ E M → (∀ I' H' adr', Stt I' H' adr' σ E M' → Grow I H adr I' H' adr' → Q b H') → t σ H Q
def Ea (t : TA) (E : List O) (M : Mem) (os : List O) (M' : Mem) : Prop :=
  ∀ (I H : Hp) (adr : List Addr) (σ : L2.St) (Q : List V → Hp → Prop), Stt I H adr σ E M → (∀ vs I' H' adr', Stt I' H' adr' σ E M' → Grow I H adr I' H' adr' → Vs I' adr' os vs → Q vs H') → t σ H Q
inductive Out where
  | nx (E : List O) (M : Mem) | rt (o : O) (M : Mem) | bk (E : List O) (M : Mem) | ct (E : List O) (M : Mem)
def End (D : Ends) (I H : Hp) (adr : List Addr) : Out → Prop
  | .nx E M => ∀ I' H' adr' σ', Stt I' H' adr' σ' E M → Grow I H adr I' H' adr' → D.nx σ' H'
  | .rt o M => ∀ v I' H' adr', Stt I' H' adr' [] [] M → Grow I H adr I' H' adr' → Vo I' adr' o v → D.rt v H'
  | .bk E M => ∀ I' H' adr' σ', Stt I' H' adr' σ' E M → Grow I H adr I' H' adr' → D.bk σ' H'
  | .ct E M => ∀ I' H' adr' σ', Stt I' H' adr' σ' E M → Grow I H adr I' H' adr' → D.ct σ' H'
theorem End.mono {D : Ends} {I H I1 H1 : Hp} {adr adr1 : List Addr} (g : Grow I H adr I1 H1 adr1) : ∀ {r : Out}, End D I H adr r → End D I1 H1 adr1 r
  | .nx _ _, h => fun I' H' adr' σ' s k => h I' H' adr' σ' s (g.trans k)
  | .rt _ _, h => fun v I' H' adr' s k => h v I' H' adr' s (g.trans k)
  | .bk _ _, h => fun I' H' adr' σ' s k => h I' H' adr' σ' s (g.trans k)
  | .ct _ _, h => fun I' H' adr' σ' s k => h I' H' adr' σ' s (g.trans k)
def Do (t : TS) (E : List O) (M : Mem) (r : Out) : Prop :=
  ∀ (I H : Hp) (adr : List Addr) (σ : L2.St) (D : Ends), Stt I H adr σ E M → End D I H adr r → t D σ H

/-! ### contexts -/
structure Pg where
  P : Program
  w : World
  K : PySem.W.Frag
  mg : Str → Option Value
  base : Heap
structure Cc where
  g : Pg
  N : List Str
  sc : Scope
  fn : Str → Bool
  k : Nat
  W : WX
  cd : Option (Value × Str)
structure CxIs (C : Cc) (X : Cx) : Prop where
  P : X.prog = C.g.P
  w : X.w = C.g.w
  K : X.K = C.g.K
  mg : X.mg = C.g.mg
  base : X.base = C.g.base
  N : X.N = C.N
  sc : X.env.scope = C.sc
  calm : X.calm = true
  room : Room C.k X.A
  po : PassesOwn (model X.prog X.w) X.A X.env X.xe
  tk : L2.Takes X C.W
  fn : ∀ x, C.fn x = true → X.fn x = true
  cd : ∀ c q, C.cd = some (c, q) → X.env.code = c ∧ X.env.qual = q
  fr : ∃ env l, X.stack = env :: l ∧ env.scope.isGenerator = false ∧ env.scope.isCoroutine = false ∧ env.builtins = builtinsNs ∧ env.globals = mainGlobals

def UE (C : Cc) (e : Expr) : TE := fun σ H Q => ∃ t : TE, (∀ X, CxIs C X → PE X e t) ∧ t σ H Q
def UT (C : Cc) (e : Expr) : TT := fun σ H Q => ∃ t : TT, (∀ X, CxIs C X → PT X e t) ∧ t σ H Q
def UW (C : Cc) (e : Expr) : TT := fun σ H Q => ∃ t : TT, (∀ X, CxIs C X → PW X e t) ∧ t σ H Q
def UA (C : Cc) (es : List Expr) : TA := fun σ H Q => ∃ t : TA, (∀ X, CxIs C X → PA X es t) ∧ t σ H Q
def US (C : Cc) (st : Stmt) : TS := fun D σ H => ∃ t : TS, (∀ X, CxIs C X → PS X st t) ∧ t D σ H
def UB (C : Cc) (sts : List Stmt) : TS := fun D σ H => ∃ t : TS, (∀ X, CxIs C X → PSs X sts t) ∧ t D σ H
theorem ue {C : Cc} {X : Cx} (h : CxIs C X) (e : Expr) : PE X e (UE C e) := ⟨fun pins s σ H Q I q => let ⟨_, p, q⟩ := q; (p X h).run pins s σ H Q I q⟩
theorem ut {C : Cc} {X : Cx} (h : CxIs C X) (e : Expr) : PT X e (UT C e) := ⟨fun pins s σ H Q I q => let ⟨_, p, q⟩ := q; (p X h).run pins s σ H Q I q⟩
theorem uw {C : Cc} {X : Cx} (h : CxIs C X) (e : Expr) : PW X e (UW C e) := ⟨fun wh pins s σ H Q I q => let ⟨_, p, q⟩ := q; (p X h).run wh pins s σ H Q I q⟩
theorem ua {C : Cc} {X : Cx} (h : CxIs C X) (es : List Expr) : PA X es (UA C es) := ⟨fun pos pins s σ H Q I q => let ⟨_, p, q⟩ := q; (p X h).run pos pins s σ H Q I q⟩
theorem us {C : Cc} {X : Cx} (h : CxIs C X) (st : Stmt) : PS X st (US C st) := ⟨fun pins s σ H D I q => let ⟨_, p, q⟩ := q; (p X h).run pins s σ H D I q⟩
theorem ub {C : Cc} {X : Cx} (h : CxIs C X) (sts : List Stmt) : PSs X sts (UB C sts) := ⟨fun pins s σ H D I q => let ⟨_, p, q⟩ := q; (p X h).run pins s σ H D I q⟩

def EV (C : Cc) (e : Expr) (E : List O) (M : Mem) (o : O) (M' : Mem) : Prop := Ev (UE C e) E M o M'
def ET (C : Cc) (e : Expr) (E : List O) (M : Mem) (b : Bool) (M' : Mem) : Prop := Et (UT C e) E M b M'
def EW (C : Cc) (e : Expr) (E : List O) (M : Mem) (b : Bool) (M' : Mem) : Prop := Et (UW C e) E M b M'
def EA (C : Cc) (es : List Expr) (E : List O) (M : Mem) (os : List O) (M' : Mem) : Prop := Ea (UA C es) E M os M'
def ST (C : Cc) (st : Stmt) (E : List O) (M : Mem) (r : Out) : Prop := Do (US C st) E M r
def SB (C : Cc) (sts : List Stmt) (E : List O) (M : Mem) (r : Out) : Prop := Do (UB C sts) E M r

section
variable {C : Cc} {E : List O} {M M1 M2 M3 M' : Mem} {o o1 o2 o3 : O} {os : List O} {e a b c : Expr} {pos pos' : Pos} {r : Out} {d d1 d2 : D} {ta tb te : TE}
theorem EV.mk {t : TE} (h1 : ∀ X, CxIs C X → PE X e t) (h2 : Ev t E M o M') : EV C e E M o M' := fun I H adr σ Q s q => ⟨t, h1, h2 I H adr σ Q s q⟩
theorem ET.mk {t : TT} {b : Bool} (h1 : ∀ X, CxIs C X → PT X e t) (h2 : Et t E M b M') : ET C e E M b M' := fun I H adr σ Q s q => ⟨t, h1, h2 I H adr σ Q s q⟩
theorem EW.mk {t : TT} {b : Bool} (h1 : ∀ X, CxIs C X → PW X e t) (h2 : Et t E M b M') : EW C e E M b M' := fun I H adr σ Q s q => ⟨t, h1, h2 I H adr σ Q s q⟩
theorem EA.mk {es : List Expr} {t : TA} (h1 : ∀ X, CxIs C X → PA X es t) (h2 : Ea t E M os M') : EA C es E M os M' := fun I H adr σ Q s q => ⟨t, h1, h2 I H adr σ Q s q⟩
theorem ST.mk {st : Stmt} {t : TS} (h1 : ∀ X, CxIs C X → PS X st t) (h2 : Do t E M r) : ST C st E M r := fun I H adr σ D s q => ⟨t, h1, h2 I H adr σ D s q⟩
theorem SB.mk {sts : List Stmt} {t : TS} (h1 : ∀ X, CxIs C X → PSs X sts t) (h2 : Do t E M r) : SB C sts E M r := fun I H adr σ D s q => ⟨t, h1, h2 I H adr σ D s q⟩

/-! ### names, constants -/
theorem EV.to {o' : O} (h : EV C e E M o M') (q : o = o') : EV C e E M o' M' := q ▸ h
theorem ev_name {i : Nat} (h : E[i]? = some o) (hn : o ≠ .no) : Ev (tVar i) E M o M := fun I H adr σ Q s q => by
  have hl : i < σ.length := by
    rw [← s.len]
    exact (List.getElem?_eq_some_iff.mp h).1
  have h2 : σ[i]? = some σ[i] := List.getElem?_eq_getElem hl
  have h3 := s.slot i o _ h h2
  cases hv : σ[i] with
  | none =>
    rw [hv] at h3
    exact absurd h3 hn
  | some v =>
    rw [hv] at h3 h2
    exact ⟨v, h2, q v I H adr s Grow.refl h3⟩
theorem EV.nm (i : Nat) {x : Str} (hN : C.N[i]? = some x := by rfl) (h : E[i]? = some o := by rfl) (hn : o ≠ .no := by intro z; cases z) (hv : Vis C.sc x := by first | exact Or.inl rfl | exact Or.inr (Or.inl rfl) | exact Or.inr (Or.inr rfl))
    (hd : (x == ("__debug__" : Str)) = false := by decide) (hcd : (x == ("__classdict__" : Str)) = false := by decide) : EV C (.Name x pos) E M o M :=
  EV.mk (fun X hX => pe_var (by rw [hX.N]; exact hN) (by rw [hX.sc]; exact hv) hd hcd) (ev_name h hn)
theorem ev_c {v : V} (h : ∀ I, Rep I d v) : Ev (tC v) E M (.dat d) M := fun I H adr σ Q s q => q v I H adr s Grow.refl (h I)
theorem EV.int {i : Int} {j : Nat} : EV C (.Constant (.int i) j pos) E M (.dat (.int i)) M := EV.mk (fun _ _ => pe_int) (ev_c fun _ => .int i)
theorem EV.bl {i : Bool} {j : Nat} : EV C (.Constant (.bool i) j pos) E M (.dat (.bl i)) M := EV.mk (fun _ _ => pe_bl) (ev_c fun _ => .bl i)
theorem EV.non {j : Nat} : EV C (.Constant .none j pos) E M (.dat .non) M := EV.mk (fun _ _ => pe_non) (ev_c fun _ => .non)
theorem EV.str {x : Str} {j : Nat} : EV C (.Constant (.str x) j pos) E M (.dat (.str x)) M := EV.mk (fun _ _ => pe_str) (ev_c fun _ => .str x)
theorem EV.gint {x : Str} {i : Int} {t : Tok} (hm : C.g.mg x = some (.int i t)) (hg : C.sc.names.lookup x = some .globalImplicit := by rfl) (hd : (x == ("__debug__" : Str)) = false := by decide) : EV C (.Name x pos) E M (.dat (.int i)) M :=
  EV.mk (fun X hX => pe_glob (v := .int i) (u := .int i t) (by show X.env.scope.names.lookup x = _; rw [hX.sc]; exact hg) (by rw [hX.mg]; exact hm) ⟨t, rfl⟩ hd) (ev_c fun _ => .int i)

/-! ### operators -/
def RO (r : R2) (o1 o2 : O) (M : Mem) (o : O) (M' : Mem) : Prop :=
  ∀ (I H : Hp) (adr : List Addr) (σ : L2.St) (E : List O) (v w : V) (Q : VK), Stt I H adr σ E M → Vo I adr o1 v → Vo I adr o2 w → (∀ z I' H' adr', Stt I' H' adr' σ E M' → Grow I H adr I' H' adr' → Vo I' adr' o z → Q z H') → r v w H Q
theorem ev_op {r : R2} (ha : Ev ta E M o1 M1) (hb : Ev tb E M1 o2 M2) (hr : RO r o1 o2 M2 o M') : Ev (tOp r ta tb) E M o M' := fun I H adr σ Q s q =>
  ha I H adr σ _ s fun v I1 H1 adr1 s1 g1 v1 => hb I1 H1 adr1 σ _ s1 fun w I2 H2 adr2 s2 g2 w2 =>
    hr I2 H2 adr2 σ E v w Q s2 (v1.mono g2) w2 fun z I3 H3 adr3 s3 g3 z3 => q z I3 H3 adr3 s3 ((g1.trans g2).trans g3) z3
theorem EV.op {op : Operator} {r : R2} (ha : EV C a E M o1 M1) (hb : EV C b E M1 o2 M2) (ho : ∀ X, CxIs C X → OpR X (binaryOp op) r) (hr : RO r o1 o2 M2 o M') : EV C (.BinOp a op b pos) E M o M' :=
  EV.mk (fun X hX => pe_op (ho X hX) (ue hX a) (ue hX b)) (ev_op ha hb hr)
theorem EV.cmp {op : CmpOp} {r : R2} (ha : EV C a E M o1 M1) (hb : EV C b E M1 o2 M2) (ho : ∀ X, CxIs C X → OpR X (compareOp op) r) (hr : RO r o1 o2 M2 o M') (hm : behindInMarks op b = false) : EV C (.Compare a [op] [b] pos) E M o M' :=
  EV.mk (fun X hX => pe_cmpR (ho X hX) (ue hX a) (ue hX b) hm) (ev_op ha hb hr)
theorem et_test {b : Bool} (h : Ev te E M (.dat (.bl b)) M') : Et (tTest te) E M b M' := fun I H adr σ Q s q =>
  h I H adr σ _ s fun v I1 H1 adr1 s1 g1 v1 => by
    cases (show Rep I1 (.bl b) v from v1)
    exact ⟨b, rfl, q I1 H1 adr1 s1 g1⟩
theorem et_B {b : Bool} (h : Ev te E M (.dat (.bl b)) M') : Et (tB te) E M b M' := fun I H adr σ Q s q =>
  h I H adr σ _ s fun v I1 H1 adr1 s1 g1 v1 => by
    cases (show Rep I1 (.bl b) v from v1)
    exact ⟨b, rfl, q I1 H1 adr1 s1 g1⟩
theorem ET.cmp {op : CmpOp} {r : R2} {k : Bool} (ha : EV C a E M o1 M1) (hb : EV C b E M1 o2 M2) (ho : ∀ X, CxIs C X → OpR X (compareOp op) r) (hr : RO r o1 o2 M2 (.dat (.bl k)) M') (hm : behindInMarks op b = false) : ET C (.Compare a [op] [b] pos) E M k M' :=
  ET.mk (fun X hX => pt_cmpR (ho X hX) (ue hX a) (ue hX b) hm) (et_test (ev_op ha hb hr))
/-- a test by its value, a bool -/
theorem ET.val {k : Bool} (h : EV C e E M (.dat (.bl k)) M') (he : ∀ env whole, isTrue e env whole = (do let v ← whole; standAt e.pos; holding [v] (truthy v)) := by intro _ _; rfl) : ET C e E M k M' :=
  ET.mk (fun X hX => pt_val (ue hX e) (he X.env)) (et_B h)
theorem tru_lst {K : PySem.W.Frag} {H : Hp} {p : Addr} {xs : List V} (h : H p = some (.lst xs)) : TruV K (.ref p) H (!xs.isEmpty) := .inl ⟨xs, .inl (.inl h), rfl⟩
theorem tru_tup {K : PySem.W.Frag} {H : Hp} {p : Addr} {xs : List V} (h : H p = some (.tup xs)) : TruV K (.ref p) H (!xs.isEmpty) := .inr (.inl ⟨xs, .inl (.inl h), rfl⟩)
/-- a value's truth -/
def tru : D → Option Bool
  | .non => some false
  | .bl b => some b
  | .int i => some (i != 0)
  | .lst ds => some (!ds.isEmpty)
  | .tup ds => some (!ds.isEmpty)
  | _ => none
theorem isEmpty_reps {I : Hp} {ds : List D} {xs : List V} (r : Reps I ds xs) : ds.isEmpty = xs.isEmpty := by cases r <;> rfl
theorem tru_of {K : PySem.W.Frag} {I H : Hp} {v : V} {k : Bool} (e : Ex I H) (h : Rep I d v) (t : tru d = some k) : TruV K v H k := by
  cases h with
  | non => exact (Option.some.inj t).symm
  | bl b => exact (Option.some.inj t).symm
  | int i => exact (Option.some.inj t).symm
  | str s => cases t
  | tup h r =>
    cases t
    rw [isEmpty_reps r]
    exact tru_tup (e _ _ h)
  | lst h r =>
    cases t
    rw [isEmpty_reps r]
    exact tru_lst (e _ _ h)
  | dct h r => cases t
theorem ET.tru {k : Bool} (h : EV C e E M (.dat d) M') (t : tru d = some k) (he : ∀ env whole, isTrue e env whole = (do let v ← whole; standAt e.pos; holding [v] (truthy v)) := by intro _ _; rfl) : ET C e E M k M' :=
  ET.mk (t := fun σ H Q => UE C e σ H fun x H' => ∃ k, TruV C.g.K x H' k ∧ Q k H') (fun X hX => by
    have := pt_truth (ue hX e) (he X.env)
    rw [hX.K] at this
    exact this) fun I H adr σ Q s q => h I H adr σ _ s fun v I1 H1 adr1 s1 g1 v1 => ⟨k, tru_of s1.ex v1 t, q I1 H1 adr1 s1 g1⟩

/-! ### and, or, not -/
theorem pt_dead {X : Cx} : PT X e (fun _ _ _ => False) := ⟨fun _ _ _ _ _ _ h => h.elim⟩
theorem pw_dead {X : Cx} : PW X e (fun _ _ _ => False) := ⟨fun _ _ _ _ _ _ _ h => h.elim⟩
theorem pe_dead {X : Cx} : PE X e (fun _ _ _ => False) := ⟨fun _ _ _ _ _ _ h => h.elim⟩
theorem EW.et {k : Bool} (h : EW C e E M k M') : ET C e E M k M' := ET.mk (fun X hX => (uw hX e).pt) h
theorem EW.and1 {k : Bool} (h : ET C a E M k M') : EW C (.BoolOp .And [a] pos) E M k M' := EW.mk (fun X hX => pw_and1 (ut hX a)) h
theorem EW.or1 {k : Bool} (h : ET C a E M k M') : EW C (.BoolOp .Or [a] pos) E M k M' := EW.mk (fun X hX => pw_or1 (ut hX a)) h
theorem EW.and {k1 k2 : Bool} {rest : List Expr} (ha : ET C a E M k1 M1) (hb : k1 = true → EW C (.BoolOp .And (b :: rest) pos) E M1 k2 M2) (hm : k1 = false → M2 = M1) : EW C (.BoolOp .And (a :: b :: rest) pos) E M (k1 && k2) M2 := by
  cases k1 with
  | true =>
    refine EW.mk (fun X hX => pw_and (ut hX a) (uw hX _)) fun I H adr σ Q s q => ?_
    refine ha I H adr σ _ s fun I1 H1 adr1 s1 g1 => ?_
    show UW C _ σ H1 Q
    exact hb rfl I1 H1 adr1 σ Q s1 fun I2 H2 adr2 s2 g2 => q I2 H2 adr2 s2 (g1.trans g2)
  | false =>
    cases hm rfl
    refine EW.mk (fun X hX => pw_and (ut hX a) pw_dead) fun I H adr σ Q s q => ?_
    refine ha I H adr σ _ s fun I1 H1 adr1 s1 g1 => ?_
    show Q false H1
    exact q I1 H1 adr1 s1 g1
theorem EW.or {k1 k2 : Bool} {rest : List Expr} (ha : ET C a E M k1 M1) (hb : k1 = false → EW C (.BoolOp .Or (b :: rest) pos) E M1 k2 M2) (hm : k1 = true → M2 = M1) : EW C (.BoolOp .Or (a :: b :: rest) pos) E M (k1 || k2) M2 := by
  cases k1 with
  | false =>
    refine EW.mk (fun X hX => pw_or (ut hX a) (uw hX _)) fun I H adr σ Q s q => ?_
    refine ha I H adr σ _ s fun I1 H1 adr1 s1 g1 => ?_
    show UW C _ σ H1 Q
    exact hb rfl I1 H1 adr1 σ Q s1 fun I2 H2 adr2 s2 g2 => q I2 H2 adr2 s2 (g1.trans g2)
  | true =>
    cases hm rfl
    refine EW.mk (fun X hX => pw_or (ut hX a) pw_dead) fun I H adr σ Q s q => ?_
    refine ha I H adr σ _ s fun I1 H1 adr1 s1 g1 => ?_
    show Q true H1
    exact q I1 H1 adr1 s1 g1
theorem ET.not {k : Bool} (h : ET C a E M k M') : ET C (.UnaryOp .Not a pos) E M (!k) M' :=
  ET.mk (fun X hX => pt_not (ut hX a)) fun I H adr σ Q s q => h I H adr σ _ s fun I1 H1 adr1 s1 g1 => q I1 H1 adr1 s1 g1
/-- the same as values, where all parts are bools -/
theorem EV.and1 (h : EV C a E M o M') : EV C (.BoolOp .And [a] pos) E M o M' := EV.mk (fun X hX => pe_one (ue hX a)) h
theorem EV.or1 (h : EV C a E M o M') : EV C (.BoolOp .Or [a] pos) E M o M' := EV.mk (fun X hX => pe_one (ue hX a)) h
theorem EV.and {k1 k2 : Bool} {rest : List Expr} (ha : EV C a E M (.dat (.bl k1)) M1) (hb : k1 = true → EV C (.BoolOp .And (b :: rest) pos) E M1 (.dat (.bl k2)) M2) (hm : k1 = false → M2 = M1) : EV C (.BoolOp .And (a :: b :: rest) pos) E M (.dat (.bl (k1 && k2))) M2 := by
  cases k1 with
  | true =>
    refine EV.mk (fun X hX => pe_and (ue hX a) (ue hX _)) fun I H adr σ Q s q => ?_
    refine ha I H adr σ _ s fun v I1 H1 adr1 s1 g1 v1 => ?_
    cases (show Rep I1 (.bl true) v from v1)
    refine ⟨true, rfl, ?_⟩
    show UE C _ σ H1 Q
    exact hb rfl I1 H1 adr1 σ Q s1 fun z I2 H2 adr2 s2 g2 z2 => q z I2 H2 adr2 s2 (g1.trans g2) z2
  | false =>
    cases hm rfl
    refine EV.mk (fun X hX => pe_and (ue hX a) pe_dead) fun I H adr σ Q s q => ?_
    refine ha I H adr σ _ s fun v I1 H1 adr1 s1 g1 v1 => ?_
    cases (show Rep I1 (.bl false) v from v1)
    refine ⟨false, rfl, ?_⟩
    show Q (.bl false) H1
    exact q _ I1 H1 adr1 s1 g1 (.bl false)
theorem EV.or {k1 k2 : Bool} {rest : List Expr} (ha : EV C a E M (.dat (.bl k1)) M1) (hb : k1 = false → EV C (.BoolOp .Or (b :: rest) pos) E M1 (.dat (.bl k2)) M2) (hm : k1 = true → M2 = M1) : EV C (.BoolOp .Or (a :: b :: rest) pos) E M (.dat (.bl (k1 || k2))) M2 := by
  cases k1 with
  | false =>
    refine EV.mk (fun X hX => pe_or (ue hX a) (ue hX _)) fun I H adr σ Q s q => ?_
    refine ha I H adr σ _ s fun v I1 H1 adr1 s1 g1 v1 => ?_
    cases (show Rep I1 (.bl false) v from v1)
    refine ⟨false, rfl, ?_⟩
    show UE C _ σ H1 Q
    exact hb rfl I1 H1 adr1 σ Q s1 fun z I2 H2 adr2 s2 g2 z2 => q z I2 H2 adr2 s2 (g1.trans g2) z2
  | true =>
    cases hm rfl
    refine EV.mk (fun X hX => pe_or (ue hX a) pe_dead) fun I H adr σ Q s q => ?_
    refine ha I H adr σ _ s fun v I1 H1 adr1 s1 g1 v1 => ?_
    cases (show Rep I1 (.bl true) v from v1)
    refine ⟨true, rfl, ?_⟩
    show Q (.bl true) H1
    exact q _ I1 H1 adr1 s1 g1 (.bl true)
theorem EV.not {k : Bool} (h : EV C a E M (.dat (.bl k)) M') : EV C (.UnaryOp .Not a pos) E M (.dat (.bl (!k))) M' :=
  EV.mk (fun X hX => pe_not (ue hX a)) fun I H adr σ Q s q => h I H adr σ _ s fun v I1 H1 adr1 s1 g1 v1 => by
    cases (show Rep I1 (.bl k) v from v1)
    exact ⟨k, rfl, q _ I1 H1 adr1 s1 g1 (.bl _)⟩
theorem EV.ite {k : Bool} (hc : ET C c E M k M1) (h1 : k = true → EV C a E M1 o M') (h2 : k = false → EV C b E M1 o M') : EV C (.IfExp c a b pos) E M o M' := by
  cases k with
  | true =>
    refine EV.mk (fun X hX => pe_ifExp (ut hX c) (ue hX a) pe_dead) fun I H adr σ Q s q => ?_
    refine hc I H adr σ _ s fun I1 H1 adr1 s1 g1 => ?_
    show UE C a σ H1 Q
    exact h1 rfl I1 H1 adr1 σ Q s1 fun z I2 H2 adr2 s2 g2 z2 => q z I2 H2 adr2 s2 (g1.trans g2) z2
  | false =>
    refine EV.mk (fun X hX => pe_ifExp (ut hX c) pe_dead (ue hX b)) fun I H adr σ Q s q => ?_
    refine hc I H adr σ _ s fun I1 H1 adr1 s1 g1 => ?_
    show UE C b σ H1 Q
    exact h2 rfl I1 H1 adr1 σ Q s1 fun z I2 H2 adr2 s2 g2 z2 => q z I2 H2 adr2 s2 (g1.trans g2) z2

/-! ### argument lists, tuples, lists -/
theorem EA.nil : EA C [] E M [] M := EA.mk (fun _ _ => pa_nil) fun I H adr σ Q s q => q [] I H adr s Grow.refl .nil
theorem EA.cons {es : List Expr} (h : EV C a E M o M1) (hr : EA C es E M1 os M') (hs : ∀ env, starEach (a :: es) env = (false, eval a env) :: starEach es env := by intro _; rfl) : EA C (a :: es) E M (o :: os) M' :=
  EA.mk (fun X hX => pa_cons (ue hX a) (ua hX es) (hs X.env)) fun I H adr σ Q s q => h I H adr σ _ s fun v I1 H1 adr1 s1 g1 v1 =>
    hr I1 H1 adr1 σ _ s1 fun vs I2 H2 adr2 s2 g2 v2 => q (v :: vs) I2 H2 adr2 s2 (g1.trans g2) (.cons (v1.mono g2) v2)
theorem sz_of {n : Nat} (h : n ≤ 100000) : n ≤ sizeLine := Nat.le_trans h (by decide)
theorem sz_lt {n : Nat} (h : n < 100000) : n < sizeLine := Nat.lt_of_lt_of_le h (by decide)
theorem EV.tup {es : List Expr} {ds : List D} {k : Nat} (h : EA C es E M (ds.map .dat) M') (hz : ds.length ≤ 100000) : EV C (.Tuple es k pos) E M (.dat (.tup ds)) M' :=
  EV.mk (fun X hX => pe_tup (ua hX es)) fun I H adr σ Q s q => h I H adr σ _ s fun vs I1 H1 adr1 s1 g1 v1 =>
    ⟨by rw [← v1.to.length]; exact sz_of hz, fun p hp => let ⟨s2, g2, r2⟩ := s1.tup hp v1.to; q _ _ _ _ s2 (g1.trans g2) r2⟩
/-- a list display that never changes -/
theorem EV.lst {es : List Expr} {ds : List D} (h : EA C es E M (ds.map .dat) M') (hz : ds.length ≤ 100000) : EV C (.List es pos) E M (.dat (.lst ds)) M' :=
  EV.mk (fun X hX => pe_lst (ua hX es)) fun I H adr σ Q s q => h I H adr σ _ s fun vs I1 H1 adr1 s1 g1 v1 =>
    ⟨by rw [← v1.to.length]; exact sz_of hz, fun p hp => let ⟨s2, g2, r2⟩ := s1.lst hp v1.to; q _ _ _ _ s2 (g1.trans g2) r2⟩
/-- .. that is a cell -/
theorem EV.cel {es : List Expr} (h : EA C es E M os M') (hz : os.length ≤ 100000) : EV C (.List es pos) E M (.adr M'.length) (M' ++ [some os]) :=
  EV.mk (fun X hX => pe_lst (ua hX es)) fun I H adr σ Q s q => h I H adr σ _ s fun vs I1 H1 adr1 s1 g1 v1 =>
    ⟨by rw [← v1.length]; exact sz_of hz, fun p hp => let ⟨s2, g2, r2⟩ := s1.cel hp v1; q _ _ _ _ s2 (g1.trans g2) ⟨p, r2, rfl⟩⟩

/-! ### statements -/
theorem SB.nil : SB C [] E M (.nx E M) := SB.mk (fun _ _ => pss_nil) fun I H adr σ D s q => q I H adr σ s Grow.refl
theorem SB.cons {st : Stmt} {sts : List Stmt} {E1 : List O} (h : ST C st E M (.nx E1 M1)) (hr : SB C sts E1 M1 r) : SB C (st :: sts) E M r :=
  SB.mk (fun X hX => pss_cons (us hX st) (ub hX sts)) fun I H adr σ D s q =>
    h I H adr σ { D with nx := UB C sts D } s fun I1 H1 adr1 σ1 s1 g1 => hr I1 H1 adr1 σ1 D s1 (q.mono g1)
theorem pss_dead {X : Cx} {sts : List Stmt} : PSs X sts (fun _ _ _ => False) := ⟨fun _ _ _ _ _ _ h => h.elim⟩
theorem ps_dead {X : Cx} {st : Stmt} : PS X st (fun _ _ _ => False) := ⟨fun _ _ _ _ _ _ h => h.elim⟩
/-- a statement behind which nothing is done -/
def Out.ends : Out → Bool
  | .nx _ _ => false
  | _ => true
theorem SB.stop {st : Stmt} {sts : List Stmt} (h : ST C st E M r) (he : r.ends = true := by rfl) : SB C (st :: sts) E M r :=
  SB.mk (fun X hX => pss_cons (us hX st) pss_dead) fun I H adr σ D s q => h I H adr σ { D with nx := fun _ _ => False } s (by
    cases r with
    | nx _ _ => cases he
    | rt _ _ => exact q
    | bk _ _ => exact q
    | ct _ _ => exact q)
theorem SB.one {st : Stmt} (h : ST C st E M r) : SB C [st] E M r := SB.mk (fun X hX => pss_one (us hX st)) h
theorem ST.pass : ST C (.Pass pos) E M (.nx E M) := ST.mk (fun _ _ => ps_pass) fun I H adr σ D s q => q I H adr σ s Grow.refl
theorem ST.brk : ST C (.Break pos) E M (.bk E M) := ST.mk (fun _ _ => ps_break) fun I H adr σ D s q => q I H adr σ s Grow.refl
theorem ST.cont : ST C (.Continue pos) E M (.ct E M) := ST.mk (fun _ _ => ps_continue) fun I H adr σ D s q => q I H adr σ s Grow.refl
theorem ST.ret (h : EV C e E M o M') : ST C (.Return (some e) pos) E M (.rt o M') :=
  ST.mk (fun X hX => ps_ret (ue hX e)) fun I H adr σ D s q => h I H adr σ _ s fun v I1 H1 adr1 s1 g1 v1 => q v I1 H1 adr1 ⟨s1.ex, s1.sto, rfl, fun i o ov h _ => by simp at h⟩ g1 v1
theorem ST.retN : ST C (.Return none pos) E M (.rt (.dat .non) M) :=
  ST.mk (fun X hX => ps_retN) fun I H adr σ D s q => q .non I H adr ⟨s.ex, s.sto, rfl, fun i o ov h _ => by simp at h⟩ Grow.refl .non
theorem ST.ite {k : Bool} {ys ns : List Stmt} (hc : ET C c E M k M1) (h1 : k = true → SB C ys E M1 r) (h2 : k = false → SB C ns E M1 r) : ST C (.If c ys ns pos) E M r := by
  cases k with
  | true =>
    refine ST.mk (fun X hX => ps_if (ut hX c) (ub hX ys) pss_dead) fun I H adr σ D s q => ?_
    refine hc I H adr σ _ s fun I1 H1 adr1 s1 g1 => ?_
    show UB C ys D σ H1
    exact h1 rfl I1 H1 adr1 σ D s1 (q.mono g1)
  | false =>
    refine ST.mk (fun X hX => ps_if (ut hX c) pss_dead (ub hX ns)) fun I H adr σ D s q => ?_
    refine hc I H adr σ _ s fun I1 H1 adr1 s1 g1 => ?_
    show UB C ns D σ H1
    exact h2 rfl I1 H1 adr1 σ D s1 (q.mono g1)
theorem ST.yes {ys ns : List Stmt} (hc : ET C c E M true M1) (h1 : SB C ys E M1 r) : ST C (.If c ys ns pos) E M r := ST.ite hc (fun _ => h1) (fun z => nomatch z)
theorem ST.no {ys ns : List Stmt} (hc : ET C c E M false M1) (h1 : SB C ns E M1 r) : ST C (.If c ys ns pos) E M r := ST.ite hc (fun z => nomatch z) (fun _ => h1)
theorem ST.exp (h : EV C e E M o M') (hs : ∀ env, swapsWith e none pos.line env = pure false := by intro _; rfl) : ST C (.Expr e pos) E M (.nx E M') :=
  ST.mk (fun X hX => ps_expr (ue hX e) (hs X.env)) fun I H adr σ D s q => h I H adr σ _ s fun v I1 H1 adr1 s1 g1 v1 => q I1 H1 adr1 σ s1 g1
theorem ST.set (i : Nat) {x : Str} {p' : Pos} (h : EV C e E M o M') (nd : C.N.Nodup) (hi : C.N[i]? = some x := by rfl) (hx : Loc C.sc x := by first | exact Or.inl rfl | exact Or.inr rfl)
    (hs : ∀ env, swapsWith e (some (.Name x p')) pos.line env = pure false := by intro _; rfl) (hf : C.fn x = true ∨ C.sc.names.lookup x = some .local := by first | exact .inl rfl | exact .inr rfl) : ST C (.Assign [.Name x p'] e pos) E M (.nx (E.set i o) M') :=
  ST.mk (fun X hX => ps_set (by rw [hX.N]; exact nd) (by rw [hX.N]; exact hi) (by rw [hX.sc]; exact hx) (ue hX e) (hs X.env) (hf.elim (fun z => .inl (hX.fn x z)) (fun z => .inr (by rw [hX.sc]; exact z))))
    fun I H adr σ D s q => h I H adr σ _ s fun v I1 H1 adr1 s1 g1 v1 => q I1 H1 adr1 _ (s1.set v1) g1

end
end Ab
/-! Ab: defs and their calls. -/
namespace Ab
open PySem PySem.Spec PyProof.Rows L2
variable [TabCtx]

abbrev Rel := List O → Mem → O → Mem → Prop
def spR (R : Rel) : Sp := fun vs H Q _ => ∃ (I : Hp) (adr : List Addr) (os : List O) (M : Mem) (o : O) (M' : Mem), R os M o M' ∧ Ex I H ∧ Sto I H adr M ∧ Vs I adr os vs ∧
  ∀ v I' H' adr', Ex I' H' → Sto I' H' adr' M' → Grow I H adr I' H' adr' → Vo I' adr' o v → Q v H'
/-- the def named x keeps R -/
def FN (g : Pg) (x : Str) (k : Nat) (R : Rel) : Prop := ∃ (f : Addr) (fd : FuncData) (ps : List Str), FnOk g.P g.w g.K g.mg g.base CX0 k f fd ps (spR R) ∧ g.mg x = some (.ref f) ∧ PySem.W.keepIn g.K (.ref f) = true ∧ Binds g.K fd ps []
theorem FN.mono {g : Pg} {x : Str} {j k : Nat} {R : Rel} (F : FN g x j R) (h : j ≤ k) : FN g x k R := by
  obtain ⟨f, fd, ps, a, b⟩ := F
  exact ⟨f, fd, ps, a.mono h, b⟩
theorem FN.imp {g : Pg} {x : Str} {k : Nat} {R R' : Rel} (F : FN g x k R) (h : ∀ os M o M', R' os M o M' → R os M o M') : FN g x k R' := by
  obtain ⟨f, fd, ps, a, b⟩ := F
  refine ⟨f, fd, ps, a.imp fun vs H Q E z => ?_, b⟩
  obtain ⟨I, adr, os, M, o, M', r, q⟩ := z
  exact ⟨I, adr, os, M, o, M', h _ _ _ _ r, q⟩
def W0 : WX := fun _ _ _ _ => False
theorem takes0 {X : Cx} : L2.Takes X W0 := fun _ _ x => by
  obtain ⟨_, _, _, _, _, _, _, _, _, _, _, _, _, _, _, _, z⟩ := x
  exact z.elim
abbrev mkC (g : Pg) (N : List Str) (st : Stmt) (k : Nat) : Cc := ⟨g, N, defScope st, fun _ => true, k, W0, none⟩
def pad (N : List Str) (os : List O) : List O := os ++ List.replicate (N.length - os.length) .no
/-- what a def's text is, where it stands -/
structure TxtF (g : Pg) (x : Str) (st : Stmt) : Prop where
  fn : ∃ (f : Addr) (fd : FuncData), Fun g.K x x st f fd ∧ g.mg x = some (.ref f)
theorem FN.mk {g : Pg} {x : Str} {st : Stmt} {N ps : List Str} {k : Nat} {R : Rel} (T : TxtF g x st) (S : FnScope N ps (defScope st))
    (hb : ∀ (kV doc pm : Value) (an : Option Addr) (cdv ct : Value) (us : List Value), us.length = ps.length → bindArgs (PySem.W.fnOf x x (defArgs st) (defBody st) (defScope st) .none kV doc pm an cdv ct) ⟨us, []⟩ = pure (ps.zip us))
    (hl : ∀ os M o M', R os M o M' → os.length = ps.length) (body : ∀ os M o M', R os M o M' → SB (mkC g N st k) (defBody st) (pad N os) M (.rt o M')) : FN g x (k + 1) R := by
  obtain ⟨f, fd, F, hm⟩ := T.fn
  refine ⟨f, fd, ps, F.ok (N := N) S (fun vs H Q E h => ?_) (fun cdv A outer s H vs Q E hr h => ?_), hm, F.kp, F.binds hb⟩
  · obtain ⟨I, adr, os, M, o, M', r, _, _, v, _⟩ := h
    rw [← v.length]
    exact hl _ _ _ _ r
  · obtain ⟨I, adr, os, M, o, M', r, ex, sto, v, q⟩ := h
    refine ⟨UB (mkC g N st k) (defBody st), ub ⟨rfl, rfl, rfl, rfl, rfl, rfl, rfl, rfl, hr, PassesOwn.never, takes0, fun _ _ => rfl, fun _ _ z => (by cases z), ⟨_, _, rfl, S.gen, S.co, rfl, rfl⟩⟩ _, ?_⟩
    refine body os M o M' r I H adr (L2.start N vs) _ ⟨ex, sto, ?_, fun i p ov h1 h2 => ?_⟩ fun w I' H' adr' s' g' v' => q w I' H' adr' s'.ex s'.sto g' v'
    · unfold pad L2.start
      rw [List.length_append, List.length_append, List.length_map, List.length_replicate, List.length_replicate, v.length]
    · unfold pad at h1
      unfold L2.start at h2
      by_cases hi : i < os.length
      · rw [List.getElem?_append_left hi] at h1
        obtain ⟨w, e1, e2⟩ := v.get h1
        rw [List.getElem?_append_left (by rw [List.length_map, ← v.length]; exact hi), List.getElem?_map, e1] at h2
        cases h2
        exact e2
      · rw [List.getElem?_append_right (Nat.le_of_not_lt hi)] at h1
        have hp : p = .no := List.eq_of_mem_replicate (List.mem_of_getElem? h1)
        subst hp
        cases ov with
        | none => rfl
        | some w => exact True.intro

/-! ### calls -/
def O.ren (ρ : Nat → Nat) : O → O
  | .no => .no
  | .dat d => .dat d
  | .adr k => .adr (ρ k)
  | .scr a u => .scr a u
  | .obj C fs => .obj C (fs.map fun f => (f.1, ρ f.2))
theorem Vo.unren {I : Hp} {adr adr0 : List Addr} {ρ : Nat → Nat} (h : ∀ (k : Nat) (a : Addr), adr[ρ k]? = some a → adr0[k]? = some a) : ∀ {o : O} {v : V}, Vo I adr (o.ren ρ) v → Vo I adr0 o v
  | .no, _, _ => True.intro
  | .dat _, _, q => q
  | .adr _, _, q => by
    obtain ⟨a, h1, h2⟩ := q
    exact ⟨a, h _ a h1, h2⟩
  | .scr _ _, _, q => q
  | .obj _ _, _, q => by
    obtain ⟨p, dx, gs, h1, h2, h3⟩ := q
    exact ⟨p, dx, gs, h1, h2, prMap (prUn h3) fun f g' q => ⟨q.1, let ⟨a, e1, e2⟩ := q.2; ⟨a, h _ a e1, e2⟩⟩⟩
theorem Vo.doren {I : Hp} {adr adr0 : List Addr} {ρ : Nat → Nat} (h : ∀ (k : Nat) (a : Addr), adr0[k]? = some a → adr[ρ k]? = some a) : ∀ {o : O} {v : V}, Vo I adr0 o v → Vo I adr (o.ren ρ) v
  | .no, _, _ => True.intro
  | .dat _, _, q => q
  | .adr _, _, q => by
    obtain ⟨a, h1, h2⟩ := q
    exact ⟨a, h _ a h1, h2⟩
  | .scr _ _, _, q => q
  | .obj _ _, _, q => by
    obtain ⟨p, dx, gs, h1, h2, h3⟩ := q
    exact ⟨p, dx, gs, h1, h2, prDo (prMap h3 fun f g' q => ⟨q.1, let ⟨a, e1, e2⟩ := q.2; ⟨a, h _ a e1, e2⟩⟩)⟩
theorem Vs.unren {I : Hp} {adr adr0 : List Addr} {ρ : Nat → Nat} (h : ∀ (k : Nat) (a : Addr), adr[ρ k]? = some a → adr0[k]? = some a) : ∀ {os : List O} {vs : List V}, Vs I adr (os.map (·.ren ρ)) vs → Vs I adr0 os vs
  | [], _, .nil => .nil
  | _ :: _, _, .cons q r => .cons (q.unren h) (Vs.unren h r)
theorem Vs.doren {I : Hp} {adr adr0 : List Addr} {ρ : Nat → Nat} (h : ∀ (k : Nat) (a : Addr), adr0[k]? = some a → adr[ρ k]? = some a) : ∀ {os : List O} {vs : List V}, Vs I adr0 os vs → Vs I adr (os.map (·.ren ρ)) vs
  | _, _, .nil => .nil
  | _, _, .cons q r => .cons (q.doren h) (Vs.doren h r)

/-- where the callee's cells lie: the lent ones at ι, new ones behind the caller's -/
def rho (ι : List Nat) (n : Nat) (k : Nat) : Nat := match ι[k]? with
  | some j => j
  | none => n + (k - ι.length)
/-- the caller's cells behind a call -/
structure Mix (ι : List Nat) (M1 M0 M0' M2 : Mem) : Prop where
  low : ι.length = M0.length
  nd : ι.Nodup
  len : M2.length = M1.length + (M0'.length - ι.length)
  lent : ∀ (i k : Nat), ι[i]? = some k → M1[k]? = (M0[i]?).map fun c => c.map fun os => os.map (·.ren (rho ι M1.length))
  back : ∀ (k : Nat) (os : List O), M2[k]? = some (some os) → (k ∉ ι ∧ M1[k]? = some (some os)) ∨ ∃ (i : Nat) (ps : List O), rho ι M1.length i = k ∧ (i < ι.length ∨ ι.length ≤ i) ∧ M0'[i]? = some (some ps) ∧ os = ps.map (·.ren (rho ι M1.length))

theorem call_mix {I1 H1 : Hp} {adr1 : List Addr} {σ : L2.St} {E : List O} {M1 M2 M0 M0' : Mem} {ι : List Nat} (s1 : Stt I1 H1 adr1 σ E M1) (mx : Mix ι M1 M0 M0' M2) :
    ∃ adr0 : List Addr, Sto I1 H1 adr0 M0 ∧ (∀ (os : List O) (vs : List V), Vs I1 adr1 (os.map (·.ren (rho ι M1.length))) vs → Vs I1 adr0 os vs) ∧
      ∀ (I2 H2 : Hp) (adr0' : List Addr), Ex I2 H2 → Sto I2 H2 adr0' M0' → Grow I1 H1 adr0 I2 H2 adr0' → ∃ adr2, Stt I2 H2 adr2 σ E M2 ∧ Grow I1 H1 adr1 I2 H2 adr2 ∧ ∀ (o : O) (v : V), Vo I2 adr0' o v → Vo I2 adr2 (o.ren (rho ι M1.length)) v := by
  have hin : ∀ (i k : Nat), ι[i]? = some k → k < M1.length := fun i k h => by
    have h2 := mx.lent i k h
    have hi : i < M0.length := by
      rw [← mx.low]
      exact (List.getElem?_eq_some_iff.mp h).1
    rw [List.getElem?_eq_getElem hi] at h2
    exact (List.getElem?_eq_some_iff.mp h2).1
  have hlen1 := s1.sto.len
  -- the callee's addresses
  let adr0 : List Addr := ι.map fun k => adr1.getD k 0
  have a0len : adr0.length = ι.length := List.length_map _
  have a0 : ∀ (i : Nat) (a : Addr), adr0[i]? = some a → ∃ k, ι[i]? = some k ∧ adr1[k]? = some a := fun i a h => by
    rw [List.getElem?_map] at h
    cases hk : ι[i]? with
    | none => rw [hk] at h; cases h
    | some k =>
      rw [hk] at h
      have hlt : k < adr1.length := by rw [hlen1]; exact hin i k hk
      refine ⟨k, rfl, ?_⟩
      rw [List.getElem?_eq_getElem hlt]
      have : adr1.getD k 0 = a := Option.some.inj h
      rw [List.getD_eq_getElem?_getD, List.getElem?_eq_getElem hlt] at this
      exact congrArg some this
  have a0' : ∀ (i k : Nat) (a : Addr), ι[i]? = some k → adr1[k]? = some a → adr0[i]? = some a := fun i k a h1 h2 => by
    rw [List.getElem?_map, h1]
    show some (adr1.getD k 0) = some a
    rw [List.getD_eq_getElem?_getD, h2]
    rfl
  have un0 : ∀ (k : Nat) (a : Addr), adr1[rho ι M1.length k]? = some a → adr0[k]? = some a := fun k a h => by
    unfold rho at h
    cases hk : ι[k]? with
    | some j =>
      rw [hk] at h
      exact a0' k j a hk h
    | none =>
      rw [hk] at h
      have := (List.getElem?_eq_some_iff.mp h).1
      simp only at this
      omega
  have sto0 : Sto I1 H1 adr0 M0 := by
    refine ⟨by rw [a0len]; exact mx.low, ?_, fun i a ps h1 h2 => ?_, fun i a h => ?_, s1.sto.amb⟩
    · refine List.pairwise_map.mpr (List.Pairwise.imp_of_mem (fun {a b} ha hb hab e => ?_) mx.nd)
      obtain ⟨i, hi⟩ := List.getElem?_of_mem ha
      obtain ⟨j, hj⟩ := List.getElem?_of_mem hb
      have l1 : a < adr1.length := by rw [hlen1]; exact hin i a hi
      have l2 : b < adr1.length := by rw [hlen1]; exact hin j b hj
      have e1 : adr1[a]? = adr1[b]? := by
        rw [List.getD_eq_getElem?_getD, List.getD_eq_getElem?_getD, List.getElem?_eq_getElem l1, List.getElem?_eq_getElem l2] at e
        rw [List.getElem?_eq_getElem l1, List.getElem?_eq_getElem l2]
        exact congrArg some e
      exact hab ((List.getElem?_inj l1 s1.sto.nd).mp e1)
    · obtain ⟨k, hk, ha1⟩ := a0 i a h1
      have hm := mx.lent i k hk
      rw [h2] at hm
      obtain ⟨c1, xs, c2, c3⟩ := s1.sto.cell k a _ ha1 hm
      exact ⟨c1, xs, c2, c3.unren un0⟩
    · obtain ⟨k, hk, ha1⟩ := a0 i a h
      exact s1.sto.dom k a ha1
  refine ⟨adr0, sto0, fun os vs v => v.unren un0, fun I2 H2 adr0' ex2 sto2 g2 => ?_⟩
  obtain ⟨nw, rfl, fr⟩ := g2.new
  have nwlen : nw.length = M0'.length - ι.length := by
    have := sto2.len
    rw [List.length_append, a0len] at this
    omega
  have m0len : ι.length ≤ M0'.length := by
    have := sto2.len
    rw [List.length_append, a0len] at this
    omega
  have do2 : ∀ (k : Nat) (a : Addr), (adr0 ++ nw)[k]? = some a → (adr1 ++ nw)[rho ι M1.length k]? = some a := fun k a h => by
    unfold rho
    by_cases hk : k < adr0.length
    · rw [List.getElem?_append_left hk] at h
      obtain ⟨j, p1, p2⟩ := a0 k a h
      rw [p1]
      show (adr1 ++ nw)[j]? = some a
      rw [List.getElem?_append_left (List.getElem?_eq_some_iff.mp p2).1]
      exact p2
    · rw [List.getElem?_append_right (Nat.le_of_not_lt hk)] at h
      rw [show ι[k]? = none from List.getElem?_eq_none (by rw [← a0len]; exact Nat.le_of_not_lt hk)]
      show (adr1 ++ nw)[M1.length + (k - ι.length)]? = some a
      rw [List.getElem?_append_right (by omega), ← a0len, hlen1]
      rw [show M1.length + (k - adr0.length) - M1.length = k - adr0.length by omega]
      exact h
  have nin0 : ∀ p, p ∉ adr1 → p ∉ adr0 := fun p h z => by
    obtain ⟨i, hi⟩ := List.getElem?_of_mem z
    obtain ⟨k, _, hk⟩ := a0 i p hi
    exact h (List.mem_of_getElem? hk)
  have g3 : Grow I1 H1 adr1 I2 H2 (adr1 ++ nw) := ⟨g2.ex, ⟨nw, rfl, fr⟩, fun p u h n hp => g2.keep p u h n (nin0 p hp), g2.dom, fun p u h n h2 hp => g2.out p u h n h2 (nin0 p hp), g2.code⟩
  have notin : ∀ (k : Nat) (a : Addr), k ∉ ι → adr1[k]? = some a → a ∉ adr0 := fun k a hk h z => by
    obtain ⟨i, hi⟩ := List.getElem?_of_mem z
    obtain ⟨j, h1, h2⟩ := a0 i a hi
    have : j = k := (List.getElem?_inj (List.getElem?_eq_some_iff.mp h2).1 s1.sto.nd).mp (h2.trans h.symm)
    subst this
    exact hk (List.mem_of_getElem? h1)
  have sto3 : Sto I2 H2 (adr1 ++ nw) M2 := by
    refine ⟨by rw [List.length_append, mx.len, hlen1, nwlen], ?_, fun k a ps h1 h2 => ?_, fun k a h => ?_, sto2.amb⟩
    · rw [List.nodup_append]
      refine ⟨s1.sto.nd, (List.nodup_append.mp sto2.nd).2.1, fun a ha b hb e => ?_⟩
      subst e
      obtain ⟨k, hk⟩ := List.getElem?_of_mem ha
      obtain ⟨u, hu, n⟩ := s1.sto.dom k a hk
      exact fr a hb u hu n
    · rcases mx.back k ps h2 with ⟨hk, hm⟩ | ⟨i, ps', hi, _, hm, rfl⟩
      · have hlt : k < adr1.length := by
          rw [hlen1]
          exact (List.getElem?_eq_some_iff.mp hm).1
        rw [List.getElem?_append_left hlt] at h1
        obtain ⟨c1, xs, c2, c3⟩ := s1.sto.cell k a ps h1 hm
        have na := notin k a hk h1
        exact ⟨g2.out a _ c2 NT.lst c1 na, xs, g2.keep a _ c2 NT.lst na, (c3.ext g2.ex).more⟩
      · have hi2 : i < (adr0 ++ nw).length := by
          rw [sto2.len]
          exact (List.getElem?_eq_some_iff.mp hm).1
        have e1 : (adr0 ++ nw)[i]? = some (adr0 ++ nw)[i] := List.getElem?_eq_getElem hi2
        have e2 := do2 i _ e1
        rw [hi, h1] at e2
        have e3 : a = (adr0 ++ nw)[i] := Option.some.inj e2
        obtain ⟨c1, xs, c2, c3⟩ := sto2.cell i _ ps' e1 hm
        exact ⟨by rw [e3]; exact c1, xs, by rw [e3]; exact c2, c3.doren do2⟩
    · by_cases hk : k < adr1.length
      · rw [List.getElem?_append_left hk] at h
        obtain ⟨u, hu, n⟩ := s1.sto.dom k a h
        exact g2.dom a u hu n
      · rw [List.getElem?_append_right (Nat.le_of_not_lt hk)] at h
        refine sto2.dom (ι.length + (k - adr1.length)) a ?_
        rw [List.getElem?_append_right (by rw [a0len]; omega), a0len]
        rw [show ι.length + (k - adr1.length) - ι.length = k - adr1.length by omega]
        exact h
  exact ⟨adr1 ++ nw, s1.mono g3 ex2 sto3, g3, fun o v h => h.doren do2⟩
theorem ev_call {R : Rel} {E : List O} {M M1 M2 M0 M0' : Mem} {os os0 : List O} {o0 : O} {ta : TA} {E' : XK} {ι : List Nat} (ha : Ea ta E M os M1) (hR : R os0 M0 o0 M0') (ho : os = os0.map (·.ren (rho ι M1.length))) (mx : Mix ι M1 M0 M0' M2) :
    Ev (tCall (spR R) [] E' ta) E M (o0.ren (rho ι M1.length)) M2 := fun I H adr σ Q s q => ha I H adr σ _ s fun vs I1 H1 adr1 s1 g1 v1 => by
  subst ho
  obtain ⟨adr0, sto0, vs0, back⟩ := call_mix s1 mx
  show spR R (vs ++ []) H1 Q E'
  rw [List.append_nil]
  refine ⟨I1, adr0, os0, M0, o0, M0', hR, s1.ex, sto0, vs0 _ _ v1, fun z I2 H2 adr0' ex2 sto2 g2 v2 => ?_⟩
  obtain ⟨adr2, s2, g3, dr⟩ := back I2 H2 adr0' ex2 sto2 g2
  exact q z I2 H2 adr2 s2 (g1.trans g3) (dr _ _ v2)
end Ab
/-! Ab: operators, subscripts, built-ins. -/
namespace Ab
open PySem PySem.Spec PyProof.Rows L2
variable [TabCtx]

/-- which built-in names the program's top leaves alone -/
def Bt (g : Pg) (x : Str) : Prop := g.mg x = none

def BS (C : Cc) (op : Operator) (o1 o2 : O) (M : Mem) (o : O) (M' : Mem) : Prop := ∃ r, (∀ X, CxIs C X → OpR X (binaryOp op) r) ∧ RO r o1 o2 M o M'
def CS (C : Cc) (op : CmpOp) (o1 o2 : O) (M : Mem) (o : O) (M' : Mem) : Prop := ∃ r, (∀ X, CxIs C X → OpR X (compareOp op) r) ∧ RO r o1 o2 M o M'
section
variable {C : Cc} {E : List O} {M M1 M2 M3 M' : Mem} {o o1 o2 o3 : O} {os : List O} {e a b c : Expr} {pos pos' p : Pos} {d d1 d2 : D} {i j : Int} {op : Operator} {cop cop' : CmpOp} {k k' : Bool}
theorem EV.bin (ha : EV C a E M o1 M1) (hb : EV C b E M1 o2 M2) (h : BS C op o1 o2 M2 o M') : EV C (.BinOp a op b pos) E M o M' := let ⟨_, h1, h2⟩ := h; EV.op ha hb h1 h2
theorem EV.cm (ha : EV C a E M o1 M1) (hb : EV C b E M1 o2 M2) (h : CS C cop o1 o2 M2 o M') (hm : behindInMarks cop b = false := by first | exact nomark _ | with_unfolding_all rfl) : EV C (.Compare a [cop] [b] pos) E M o M' := let ⟨_, h1, h2⟩ := h; EV.cmp ha hb h1 h2 hm
theorem ET.cm (ha : EV C a E M o1 M1) (hb : EV C b E M1 o2 M2) (h : CS C cop o1 o2 M2 (.dat (.bl k)) M') (hm : behindInMarks cop b = false := by first | exact nomark _ | with_unfolding_all rfl) : ET C (.Compare a [cop] [b] pos) E M k M' := let ⟨_, h1, h2⟩ := h; ET.cmp ha hb h1 h2 hm
/-- a op b op' c -/
theorem EV.chain {M4 : Mem} (ha : EV C a E M o1 M1) (hb : EV C b E M1 o2 M2) (h : CS C cop o1 o2 M2 (.dat (.bl k)) M2) (hc : k = true → EV C c E M2 o3 M3) (h' : k = true → CS C cop' o2 o3 M3 (.dat (.bl k')) M3) (h0 : k = false → M3 = M2)
    (hm : lastMarks [cop, cop'] [b, c] = false := by with_unfolding_all rfl) : EV C (.Compare a [cop, cop'] [b, c] pos) E M (.dat (.bl (k && k'))) M3 := by
  obtain ⟨r, r1, r2⟩ := h
  cases k with
  | true =>
    obtain ⟨r', r1', r2'⟩ := h' rfl
    refine EV.mk (fun X hX => pe_chain (r1 X hX) (r1' X hX) (ue hX a) (ue hX b) (ue hX c) hm) fun I H adr σ Q s q => ?_
    refine ha I H adr σ _ s fun v I1 H1 adr1 s1 g1 v1 => hb I1 H1 adr1 σ _ s1 fun w I2 H2 adr2 s2 g2 w2 => ?_
    refine r2 I2 H2 adr2 σ E v w _ s2 (v1.mono g2) w2 fun z I3 H3 adr3 s3 g3 z3 => ?_
    cases (show Rep I3 (.bl true) z from z3)
    refine ⟨true, rfl, ?_⟩
    show UE C c σ H3 _
    exact hc rfl I3 H3 adr3 σ _ s3 fun w' I4 H4 adr4 s4 g4 w4 => r2' I4 H4 adr4 σ E w w' Q s4 ((w2.mono g3).mono g4) w4 fun y I5 H5 adr5 s5 g5 y5 => q y I5 H5 adr5 s5 ((((g1.trans g2).trans g3).trans g4).trans g5) y5
  | false =>
    have e := h0 rfl
    subst e
    refine EV.mk (fun X hX => pe_chain (r' := fun _ _ _ _ => False) (r1 X hX) (fun _ _ _ _ _ _ _ _ _ _ _ _ h => h.elim) (ue hX a) (ue hX b) (ue hX c) hm) fun I H adr σ Q s q => ?_
    refine ha I H adr σ _ s fun v I1 H1 adr1 s1 g1 v1 => hb I1 H1 adr1 σ _ s1 fun w I2 H2 adr2 s2 g2 w2 => ?_
    refine r2 I2 H2 adr2 σ E v w _ s2 (v1.mono g2) w2 fun z I3 H3 adr3 s3 g3 z3 => ?_
    cases (show Rep I3 (.bl false) z from z3)
    refine ⟨false, rfl, ?_⟩
    show Q (.bl false) H3
    exact q _ I3 H3 adr3 s3 ((g1.trans g2).trans g3) (.bl false)
theorem ET.chain (ha : EV C a E M o1 M1) (hb : EV C b E M1 o2 M2) (h : CS C cop o1 o2 M2 (.dat (.bl k)) M2) (hc : k = true → EV C c E M2 o3 M3) (h' : k = true → CS C cop' o2 o3 M3 (.dat (.bl k')) M3) (h0 : k = false → M3 = M2)
    (hm : lastMarks [cop, cop'] [b, c] = false := by with_unfolding_all rfl) : ET C (.Compare a [cop, cop'] [b, c] pos) E M (k && k') M3 := by
  obtain ⟨r, r1, r2⟩ := h
  cases k with
  | true =>
    obtain ⟨r', r1', r2'⟩ := h' rfl
    refine ET.mk (fun X hX => pt_chain (r1 X hX) (r1' X hX) (ue hX a) (ue hX b) (ue hX c) hm) fun I H adr σ Q s q => ?_
    refine ha I H adr σ _ s fun v I1 H1 adr1 s1 g1 v1 => hb I1 H1 adr1 σ _ s1 fun w I2 H2 adr2 s2 g2 w2 => ?_
    refine r2 I2 H2 adr2 σ E v w _ s2 (v1.mono g2) w2 fun z I3 H3 adr3 s3 g3 z3 => ?_
    cases (show Rep I3 (.bl true) z from z3)
    refine ⟨true, rfl, ?_⟩
    show UE C c σ H3 _
    exact hc rfl I3 H3 adr3 σ _ s3 fun w' I4 H4 adr4 s4 g4 w4 => r2' I4 H4 adr4 σ E w w' _ s4 ((w2.mono g3).mono g4) w4 fun y I5 H5 adr5 s5 g5 y5 => by
      cases (show Rep I5 (.bl k') y from y5)
      exact ⟨k', rfl, q I5 H5 adr5 s5 ((((g1.trans g2).trans g3).trans g4).trans g5)⟩
  | false =>
    have e := h0 rfl
    subst e
    refine ET.mk (fun X hX => pt_chain (r' := fun _ _ _ _ => False) (r1 X hX) (fun _ _ _ _ _ _ _ _ _ _ _ _ h => h.elim) (ue hX a) (ue hX b) (ue hX c) hm) fun I H adr σ Q s q => ?_
    refine ha I H adr σ _ s fun v I1 H1 adr1 s1 g1 v1 => hb I1 H1 adr1 σ _ s1 fun w I2 H2 adr2 s2 g2 w2 => ?_
    refine r2 I2 H2 adr2 σ E v w _ s2 (v1.mono g2) w2 fun z I3 H3 adr3 s3 g3 z3 => ?_
    cases (show Rep I3 (.bl false) z from z3)
    refine ⟨false, rfl, ?_⟩
    show ∃ k, V.bl false = V.bl k ∧ Q k H3
    exact ⟨false, rfl, q I3 H3 adr3 s3 ((g1.trans g2).trans g3)⟩

/-! #### ints -/
theorem ro_I0 {g : Int → Int → V} (h : ∀ I, Rep I d (g i j)) : RO (rI0 g) (.dat (.int i)) (.dat (.int j)) M (.dat d) M := fun I H adr σ E v w Q s hv hw q => by
  cases (show Rep I (.int i) v from hv)
  cases (show Rep I (.int j) w from hw)
  exact ⟨i, j, rfl, rfl, q _ I H adr s Grow.refl (h I)⟩
theorem ro_I {g : Int → Int → V} {Cd : Int → Int → Prop} (hc : Cd i j) (h : ∀ I, Rep I d (g i j)) : RO (rI Cd g) (.dat (.int i)) (.dat (.int j)) M (.dat d) M := fun I H adr σ E v w Q s hv hw q => by
  cases (show Rep I (.int i) v from hv)
  cases (show Rep I (.int j) w from hw)
  exact ⟨i, j, rfl, rfl, hc, q _ I H adr s Grow.refl (h I)⟩
theorem op_mulX {X : Cx} : OpR X (binaryOp .Mult) (rI IntMulOk fun i j => .int (i * j)) := opI fun _ _ _ _ _ _ _ hc q => mul_int q hc
theorem BS.addI : BS C .Add (.dat (.int i)) (.dat (.int j)) M (.dat (.int (i + j))) M := ⟨_, fun X _ => op_add, ro_I0 fun _ => .int _⟩
theorem BS.subI : BS C .Sub (.dat (.int i)) (.dat (.int j)) M (.dat (.int (i - j))) M := ⟨_, fun X _ => op_sub, ro_I0 fun _ => .int _⟩
theorem BS.mulI (h : IntMulOk i j) : BS C .Mult (.dat (.int i)) (.dat (.int j)) M (.dat (.int (i * j))) M := ⟨_, fun X _ => op_mulX, ro_I h fun _ => .int _⟩
theorem BS.modI (h : 0 < j) : BS C .Mod (.dat (.int i)) (.dat (.int j)) M (.dat (.int (i % j))) M := ⟨_, fun X _ => op_mod, ro_I h fun _ => .int _⟩
theorem BS.divI (h : CDivW i j) : BS C .FloorDiv (.dat (.int i)) (.dat (.int j)) M (.dat (.int (i / j))) M := ⟨_, fun X _ => op_fdivW, ro_I h fun _ => .int _⟩
theorem BS.powI (h : CPow i j) : BS C .Pow (.dat (.int i)) (.dat (.int j)) M (.dat (.int (i ^ j.toNat))) M := ⟨_, fun X _ => op_pow, ro_I h fun _ => .int _⟩
theorem CS.ltI : CS C .Lt (.dat (.int i)) (.dat (.int j)) M (.dat (.bl (decide (i < j)))) M := ⟨_, fun X _ => op_lt, ro_I0 fun _ => .bl _⟩
theorem CS.leI : CS C .LtE (.dat (.int i)) (.dat (.int j)) M (.dat (.bl (decide (i ≤ j)))) M := ⟨_, fun X _ => op_le, ro_I0 fun _ => .bl _⟩
theorem CS.gtI : CS C .Gt (.dat (.int i)) (.dat (.int j)) M (.dat (.bl (decide (j < i)))) M := ⟨_, fun X _ => op_gt, ro_I0 fun _ => .bl _⟩
theorem CS.geI : CS C .GtE (.dat (.int i)) (.dat (.int j)) M (.dat (.bl (decide (j ≤ i)))) M := ⟨_, fun X _ => op_ge, ro_I0 fun _ => .bl _⟩
theorem EV.neg (h : EV C a E M (.dat (.int i)) M') : EV C (.UnaryOp .USub a pos) E M (.dat (.int (-i))) M' :=
  EV.mk (fun X hX => pe_un un_neg (ue hX a)) fun I H adr σ Q s q => h I H adr σ _ s fun v I1 H1 adr1 s1 g1 v1 => by
    cases (show Rep I1 (.int i) v from v1)
    exact ⟨i, rfl, q _ I1 H1 adr1 s1 g1 (.int _)⟩
/-! #### equality of scalars -/
theorem ro_eq {x y : V} {kk : Bool} (hx : ∀ I v, Rep I d1 v → v = x) (hy : ∀ I v, Rep I d2 v → v = y) (hs : scal x y = true) (hk : decide (x = y) = kk) : RO rEq (.dat d1) (.dat d2) M (.dat (.bl kk)) M := fun I H adr σ E v w Q s hv hw q => by
  cases hx I v hv
  cases hy I w hw
  exact ⟨hs, q _ I H adr s Grow.refl (by rw [hk]; exact .bl _)⟩
theorem ro_ne {x y : V} {kk : Bool} (hx : ∀ I v, Rep I d1 v → v = x) (hy : ∀ I v, Rep I d2 v → v = y) (hs : scal x y = true) (hk : (!decide (x = y)) = kk) : RO rNe (.dat d1) (.dat d2) M (.dat (.bl kk)) M := fun I H adr σ E v w Q s hv hw q => by
  cases hx I v hv
  cases hy I w hw
  exact ⟨hs, q _ I H adr s Grow.refl (by rw [hk]; exact .bl _)⟩
theorem rep_int {I : Hp} {v : V} (h : Rep I (.int i) v) : v = .int i := by cases h; rfl
theorem rep_bl {I : Hp} {v : V} (h : Rep I (.bl k) v) : v = .bl k := by cases h; rfl
theorem rep_str {I : Hp} {v : V} {x : Str} (h : Rep I (.str x) v) : v = .str x := by cases h; rfl
theorem rep_non {I : Hp} {v : V} (h : Rep I .non v) : v = .non := by cases h; rfl
theorem dec_i : decide (V.int i = V.int j) = decide (i = j) := by
  rw [Bool.eq_iff_iff]
  simp
theorem dec_b : decide (V.bl k = V.bl k') = decide (k = k') := by
  rw [Bool.eq_iff_iff]
  simp
theorem dec_s {x y : Str} : decide (V.str x = V.str y) = decide (x = y) := by
  rw [Bool.eq_iff_iff]
  simp
theorem CS.eqI : CS C .Eq (.dat (.int i)) (.dat (.int j)) M (.dat (.bl (decide (i = j)))) M := ⟨_, fun X _ => op_eq, ro_eq (fun _ _ => rep_int) (fun _ _ => rep_int) rfl dec_i⟩
theorem CS.neI : CS C .NotEq (.dat (.int i)) (.dat (.int j)) M (.dat (.bl (!decide (i = j)))) M := ⟨_, fun X _ => op_ne, ro_ne (fun _ _ => rep_int) (fun _ _ => rep_int) rfl (by rw [dec_i])⟩
theorem CS.eqB : CS C .Eq (.dat (.bl k)) (.dat (.bl k')) M (.dat (.bl (decide (k = k')))) M := ⟨_, fun X _ => op_eq, ro_eq (fun _ _ => rep_bl) (fun _ _ => rep_bl) rfl dec_b⟩
theorem CS.eqS {x y : Str} : CS C .Eq (.dat (.str x)) (.dat (.str y)) M (.dat (.bl (decide (x = y)))) M := ⟨_, fun X _ => op_eq, ro_eq (fun _ _ => rep_str) (fun _ _ => rep_str) rfl dec_s⟩
theorem CS.neS {x y : Str} : CS C .NotEq (.dat (.str x)) (.dat (.str y)) M (.dat (.bl (!decide (x = y)))) M := ⟨_, fun X _ => op_ne, ro_ne (fun _ _ => rep_str) (fun _ _ => rep_str) rfl (by rw [dec_s])⟩
/-! #### is None -/
def D.isN : D → Bool
  | .non => true
  | _ => false
theorem rep_isN {I : Hp} {v : V} (h : Rep I d v) : decide (v = .non) = d.isN := by
  cases h <;> rfl
theorem EV.isN {jj : Nat} (h : EV C a E M (.dat d) M') : EV C (.Compare a [.Is] [.Constant .none jj p] pos) E M (.dat (.bl d.isN)) M' :=
  EV.mk (fun X hX => pe_cmp (pc_isN (ue hX a))) fun I H adr σ Q s q => h I H adr σ _ s fun v I1 H1 adr1 s1 g1 v1 => q _ I1 H1 adr1 s1 g1 (by rw [rep_isN v1]; exact .bl _)
theorem EV.notN {jj : Nat} (h : EV C a E M (.dat d) M') : EV C (.Compare a [.IsNot] [.Constant .none jj p] pos) E M (.dat (.bl (!d.isN))) M' :=
  EV.mk (fun X hX => pe_cmp (pc_notN (ue hX a))) fun I H adr σ Q s q => h I H adr σ _ s fun v I1 H1 adr1 s1 g1 v1 => q _ I1 H1 adr1 s1 g1 (by rw [rep_isN v1]; exact .bl _)
theorem ET.isN {jj : Nat} (h : EV C a E M (.dat d) M') : ET C (.Compare a [.Is] [.Constant .none jj p] pos) E M d.isN M' :=
  ET.mk (fun X hX => pt_cmp (pc_isN (ue hX a))) fun I H adr σ Q s q => h I H adr σ _ s fun v I1 H1 adr1 s1 g1 v1 => ⟨_, rfl, by rw [rep_isN v1]; exact q I1 H1 adr1 s1 g1⟩
theorem ET.notN {jj : Nat} (h : EV C a E M (.dat d) M') : ET C (.Compare a [.IsNot] [.Constant .none jj p] pos) E M (!d.isN) M' :=
  ET.mk (fun X hX => pt_cmp (pc_notN (ue hX a))) fun I H adr σ Q s q => h I H adr σ _ s fun v I1 H1 adr1 s1 g1 v1 => ⟨_, rfl, by rw [rep_isN v1]; exact q I1 H1 adr1 s1 g1⟩

/-! #### texts, tuples, lists joined -/
theorem BS.addS {x y : Str} (h : x.length + y.length ≤ sizeLine) : BS C .Add (.dat (.str x)) (.dat (.str y)) M (.dat (.str (x ++ y))) M := ⟨_, fun X _ => op_add_str, fun I H adr σ E v w Q s hv hw q => by
  cases rep_str hv
  cases rep_str hw
  exact ⟨x, y, rfl, rfl, h, q _ I H adr s Grow.refl (.str _)⟩⟩
theorem BS.addT {ds es : List D} (h : ds.length + es.length ≤ 100000) : BS C .Add (.dat (.tup ds)) (.dat (.tup es)) M (.dat (.tup (ds ++ es))) M := ⟨rCatA C.g.K, fun X hX => by
  have := op_catA (X := X)
  rw [hX.K] at this
  exact this, fun I H adr σ E v w Q s hv hw q => by
  cases (show Rep I (.tup ds) v from hv) with
  | @tup a xs _ ha hr =>
    cases (show Rep I (.tup es) w from hw) with
    | @tup b ys _ hb hs =>
      have l1 := hr.length
      have l2 := hs.length
      refine ⟨a, b, xs, ys, rfl, rfl, .inl (.inl (s.ex _ _ ha)), .inl (.inl (s.ex _ _ hb)), by rw [← l1, ← l2]; exact sz_of h, fun e => ?_, fun _ e => ?_, fun _ _ p hp => ?_⟩
      · subst e
        cases hr
        exact q _ I H adr s Grow.refl hw
      · subst e
        cases hs
        rw [List.append_nil] at q
        exact q _ I H adr s Grow.refl hv
      · obtain ⟨s2, g2, r2⟩ := s.tup hp (hr.append hs)
        exact q _ _ _ _ s2 g2 r2⟩
theorem BS.addL {ds es : List D} (h : ds.length + es.length ≤ 100000) : BS C .Add (.dat (.lst ds)) (.dat (.lst es)) M (.dat (.lst (ds ++ es))) M := ⟨rCat, fun X hX => op_cat, fun I H adr σ E v w Q s hv hw q => by
  cases (show Rep I (.lst ds) v from hv) with
  | @lst a xs _ ha hr =>
    cases (show Rep I (.lst es) w from hw) with
    | @lst b ys _ hb hs =>
      have l1 := hr.length
      have l2 := hs.length
      refine ⟨a, b, xs, ys, rfl, rfl, s.ex _ _ ha, s.ex _ _ hb, by rw [← l1, ← l2]; exact sz_of h, fun p hp => ?_⟩
      obtain ⟨s2, g2, r2⟩ := s.lst hp (hr.append hs)
      exact q _ _ _ _ s2 g2 r2⟩
theorem BS.mulT {ds : List D} (h0 : ds ≠ []) (h1 : 2 ≤ i) (h2 : i ≤ 1000) (h3 : ds.length ≤ 1000) : BS C .Mult (.dat (.tup ds)) (.dat (.int i)) M (.dat (.tup (List.replicate i.toNat ds).flatten)) M := ⟨rRepT C.g.K, fun X hX => by
  have := op_repT (X := X)
  rw [hX.K] at this
  exact this, fun I H adr σ E v w Q s hv hw q => by
  cases rep_int hw
  cases (show Rep I (.tup ds) v from hv) with
  | @tup a xs _ ha hr =>
    have l1 := hr.length
    refine ⟨a, i, xs, rfl, rfl, .inl (.inl (s.ex _ _ ha)), fun e => ?_, h1, h2, by rw [← l1]; exact h3, fun p hp => ?_⟩
    · subst e
      cases hr
      exact h0 rfl
    · obtain ⟨s2, g2, r2⟩ := s.tup hp (hr.rep i.toNat)
      exact q _ _ _ _ s2 g2 r2⟩
theorem BS.mulL {ds : List D} (h0 : 0 ≤ i) (h2 : i ≤ 1000) (h3 : ds.length ≤ 100) : BS C .Mult (.dat (.lst ds)) (.dat (.int i)) M (.dat (.lst (List.replicate i.toNat ds).flatten)) M := ⟨rRep, fun X hX => op_rep, fun I H adr σ E v w Q s hv hw q => by
  cases rep_int hw
  cases (show Rep I (.lst ds) v from hv) with
  | @lst a xs _ ha hr =>
    have l1 := hr.length
    refine ⟨a, i, xs, rfl, rfl, s.ex _ _ ha, by omega, by omega, ?_, fun p hp => ?_⟩
    · have : xs.length * i.toNat ≤ 100 * 1000 := Nat.mul_le_mul (by omega) (by omega)
      exact sz_of (by omega)
    · obtain ⟨s2, g2, r2⟩ := s.lst hp (hr.rep i.toNat)
      exact q _ _ _ _ s2 g2 r2⟩

/-! #### subscripts -/
def ixD : D → Int → Option D
  | .tup ds, i => atI ds i
  | .lst ds, i => atI ds i
  | _, _ => none
theorem reps_atI {I : Hp} {ds : List D} {xs : List V} (r : Reps I ds xs) {i : Int} {d : D} (h : atI ds i = some d) : ∃ v, atI xs i = some v ∧ Rep I d v := by
  unfold atI at h ⊢
  rw [← r.length]
  cases q : ixN ds.length i with
  | none => rw [q] at h; cases h
  | some j =>
    rw [q] at h
    exact r.get h
theorem vs_atI {I : Hp} {adr : List Addr} {ps : List O} {xs : List V} (r : Vs I adr ps xs) {i : Int} {o : O} (h : atI ps i = some o) : ∃ v, atI xs i = some v ∧ Vo I adr o v := by
  unfold atI at h ⊢
  rw [← r.length]
  cases q : ixN ps.length i with
  | none => rw [q] at h; cases h
  | some j =>
    rw [q] at h
    exact r.get h
theorem EV.ix (ha : EV C a E M (.dat d1) M1) (hb : EV C b E M1 (.dat (.int i)) M') (h : ixD d1 i = some d) (hs : PlainIx b := by exact fun _ _ => rfl) : EV C (.Subscript a b pos) E M (.dat d) M' :=
  EV.mk (t := tOp (rIx C.g.K) (UE C a) (UE C b)) (fun X hX => by
    have := pe_ix (pos := pos) ix_seq (ue hX a) (ue hX b) hs
    rw [hX.K] at this
    exact this) (ev_op ha hb fun I H adr σ E v w Q s hv hw q => by
      cases rep_int hw
      cases (show Rep I d1 v from hv) with
      | @tup p xs ds hp hr =>
        obtain ⟨x, e1, e2⟩ := reps_atI hr h
        exact .inr (.inl ⟨p, xs, i, x, rfl, rfl, .inl (.inl (s.ex _ _ hp)), e1, q x I H adr s Grow.refl e2⟩)
      | @lst p xs ds hp hr =>
        obtain ⟨x, e1, e2⟩ := reps_atI hr h
        exact .inl ⟨p, xs, i, x, rfl, rfl, .inl (.inl (s.ex _ _ hp)), e1, q x I H adr s Grow.refl e2⟩
      | _ => cases h)
theorem EV.ixC {n : Nat} {ps : List O} (ha : EV C a E M (.adr n) M1) (hb : EV C b E M1 (.dat (.int i)) M') (hm : M'[n]? = some (some ps)) (h : atI ps i = some o) (hs : PlainIx b := by exact fun _ _ => rfl) : EV C (.Subscript a b pos) E M o M' :=
  EV.mk (t := tOp (rIx C.g.K) (UE C a) (UE C b)) (fun X hX => by
    have := pe_ix (pos := pos) ix_seq (ue hX a) (ue hX b) hs
    rw [hX.K] at this
    exact this) (ev_op ha hb fun I H adr σ E v w Q s hv hw q => by
      cases rep_int hw
      obtain ⟨p, hp, rfl⟩ := hv
      obtain ⟨_, xs, h2, h3⟩ := s.sto.cell n p ps hp hm
      obtain ⟨x, e1, e2⟩ := vs_atI h3 h
      exact .inl ⟨p, xs, i, x, rfl, rfl, .inl (.inl h2), e1, q x I H adr s Grow.refl e2⟩)
/-- parts of a slice -/
def UO (C : Cc) (e : Option Expr) : TO := fun σ H Q => ∃ t : TO, (∀ X, CxIs C X → PO X e t) ∧ t σ H Q
theorem uo {C : Cc} {X : Cx} (h : CxIs C X) (e : Option Expr) : PO X e (UO C e) := ⟨fun pins s σ H Q I q => let ⟨_, p, q⟩ := q; (p X h).run pins s σ H Q I q⟩
def EO (C : Cc) (e : Option Expr) (E : List O) (M : Mem) (o : Option Int) (M' : Mem) : Prop :=
  ∀ (I H : Hp) (adr : List Addr) (σ : L2.St) (Q : Option Int → Hp → Prop), Stt I H adr σ E M → (∀ I' H' adr', Stt I' H' adr' σ E M' → Grow I H adr I' H' adr' → Q o H') → UO C e σ H Q
theorem EO.none : EO C none E M none M := fun I H adr σ Q s q => ⟨tNoPart, fun _ _ => po_none, q I H adr s Grow.refl⟩
theorem EO.some (h : EV C a E M (.dat (.int i)) M') : EO C (some a) E M (some i) M' := fun I H adr σ Q s q => ⟨tPart (UE C a), fun X hX => po_some (ue hX a), h I H adr σ _ s fun v I1 H1 adr1 s1 g1 v1 => by
  cases rep_int v1
  exact ⟨i, rfl, q I1 H1 adr1 s1 g1⟩⟩
def cutD {α : Type} (ds : List α) (lo hi : Option Int) : List α := (ds.drop (HT.sIx ds.length 0 lo)).take (HT.sIx ds.length ds.length hi - HT.sIx ds.length 0 lo)
theorem reps_cut {I : Hp} {ds : List D} {xs : List V} (r : Reps I ds xs) (lo hi : Option Int) : Reps I (cutD ds lo hi) (cutV xs lo hi) := by
  unfold cutD cutV
  rw [r.length]
  exact (r.drop _).take _
theorem vs_cut {I : Hp} {adr : List Addr} {ps : List O} {xs : List V} (r : Vs I adr ps xs) (lo hi : Option Int) : Vs I adr (cutD ps lo hi) (cutV xs lo hi) := by
  unfold cutD cutV
  rw [r.length]
  exact (r.drop _).take _
theorem cutD_all {α : Type} {ds : List α} {lo hi : Option Int} (h1 : HT.sIx ds.length 0 lo = 0) (h2 : HT.sIx ds.length ds.length hi = ds.length) : cutD ds lo hi = ds := by
  unfold cutD
  rw [h1, h2, List.drop_zero, Nat.sub_zero, List.take_length]
theorem EV.slT {ds : List D} {lo hi : Option Expr} {l u : Option Int} (ha : EV C a E M (.dat (.tup ds)) M1) (hl : EO C lo E M1 l M2) (hh : EO C hi E M2 u M') : EV C (.Subscript a (.Slice lo hi none p) pos) E M (.dat (.tup (cutD ds l u))) M' :=
  EV.mk (t := tSl (rSlA C.g.K) (UE C a) (UO C lo) (UO C hi)) (fun X hX => by
    have := pe_slice (p2 := p) (pos := pos) (sl_tupA (X := X)) (ue hX a) (uo hX lo) (uo hX hi)
    rw [hX.K] at this
    exact this) fun I H adr σ Q s q => ha I H adr σ _ s fun v I1 H1 adr1 s1 g1 v1 => hl I1 H1 adr1 σ _ s1 fun I2 H2 adr2 s2 g2 => hh I2 H2 adr2 σ _ s2 fun I3 H3 adr3 s3 g3 => by
      have v3 := (v1.mono g2).mono g3
      cases (show Rep I3 (.tup ds) v from v3) with
      | @tup b xs _ hb hr =>
        have l1 := hr.length
        refine ⟨b, xs, rfl, .inl (.inl (s3.ex _ _ hb)), fun hw => ?_, fun _ p hp => ?_⟩
        · rw [← l1] at hw
          rw [cutD_all hw.1 hw.2] at q
          exact q _ I3 H3 adr3 s3 ((g1.trans g2).trans g3) v3
        · obtain ⟨s4, g4, r4⟩ := s3.tup hp (reps_cut hr l u)
          exact q _ _ _ _ s4 (((g1.trans g2).trans g3).trans g4) r4
theorem EV.slL {ds : List D} {lo hi : Option Expr} {l u : Option Int} (ha : EV C a E M (.dat (.lst ds)) M1) (hl : EO C lo E M1 l M2) (hh : EO C hi E M2 u M') : EV C (.Subscript a (.Slice lo hi none p) pos) E M (.dat (.lst (cutD ds l u))) M' :=
  EV.mk (t := tSl (rSlL C.g.K) (UE C a) (UO C lo) (UO C hi)) (fun X hX => by
    have := pe_slice (p2 := p) (pos := pos) (sl_list (X := X)) (ue hX a) (uo hX lo) (uo hX hi)
    rw [hX.K] at this
    exact this) fun I H adr σ Q s q => ha I H adr σ _ s fun v I1 H1 adr1 s1 g1 v1 => hl I1 H1 adr1 σ _ s1 fun I2 H2 adr2 s2 g2 => hh I2 H2 adr2 σ _ s2 fun I3 H3 adr3 s3 g3 => by
      have v3 := (v1.mono g2).mono g3
      cases (show Rep I3 (.lst ds) v from v3) with
      | @lst b xs _ hb hr =>
        refine ⟨b, xs, rfl, .inl (.inl (s3.ex _ _ hb)), fun p hp => ?_⟩
        obtain ⟨s4, g4, r4⟩ := s3.lst hp (reps_cut hr l u)
        exact q _ _ _ _ s4 (((g1.trans g2).trans g3).trans g4) r4
/-- a slice of a cell of data -/
theorem EV.slC {n : Nat} {ds : List D} {lo hi : Option Expr} {l u : Option Int} (ha : EV C a E M (.adr n) M1) (hl : EO C lo E M1 l M2) (hh : EO C hi E M2 u M') (hm : M'[n]? = some (some (ds.map .dat))) : EV C (.Subscript a (.Slice lo hi none p) pos) E M (.dat (.lst (cutD ds l u))) M' :=
  EV.mk (t := tSl (rSlL C.g.K) (UE C a) (UO C lo) (UO C hi)) (fun X hX => by
    have := pe_slice (p2 := p) (pos := pos) (sl_list (X := X)) (ue hX a) (uo hX lo) (uo hX hi)
    rw [hX.K] at this
    exact this) fun I H adr σ Q s q => ha I H adr σ _ s fun v I1 H1 adr1 s1 g1 v1 => hl I1 H1 adr1 σ _ s1 fun I2 H2 adr2 s2 g2 => hh I2 H2 adr2 σ _ s2 fun I3 H3 adr3 s3 g3 => by
      obtain ⟨b, hb, rfl⟩ := (v1.mono g2).mono g3
      obtain ⟨_, xs, h2, h3⟩ := s3.sto.cell n b _ hb hm
      refine ⟨b, xs, rfl, .inl (.inl h2), fun p hp => ?_⟩
      obtain ⟨s4, g4, r4⟩ := s3.lst hp (reps_cut h3.to l u)
      exact q _ _ _ _ s4 (((g1.trans g2).trans g3).trans g4) r4

/-! #### calls of built-ins -/
def RK (r : List V → Hp → VK → Prop) (os : List O) (M : Mem) (o : O) (M' : Mem) : Prop :=
  ∀ (I H : Hp) (adr : List Addr) (σ : L2.St) (E : List O) (vs : List V) (Q : VK), Stt I H adr σ E M → Vs I adr os vs → (∀ z I' H' adr', Stt I' H' adr' σ E M' → Grow I H adr I' H' adr' → Vo I' adr' o z → Q z H') → r vs H Q
def KS (C : Cc) (f : Value) (os : List O) (M : Mem) (o : O) (M' : Mem) : Prop := ∃ r, (∀ X, CxIs C X → CallR X f r) ∧ RK r os M o M'
theorem ev_cb {r : List V → Hp → VK → Prop} {ta : TA} (ha : Ea ta E M os M1) (hr : RK r os M1 o M') : Ev (tCB r ta) E M o M' := fun I H adr σ Q s q =>
  ha I H adr σ _ s fun vs I1 H1 adr1 s1 g1 v1 => hr I1 H1 adr1 σ E vs Q s1 v1 fun z I2 H2 adr2 s2 g2 z2 => q z I2 H2 adr2 s2 (g1.trans g2) z2
theorem EV.cb {id : String} {x : Str} {es : List Expr} (S : KS C (.builtin id) os M1 o M') (ha : EA C (e :: es) E M os M1) (hm : Bt C.g x) (hv : bootBuiltins x = some (.builtin id)) (hg : C.sc.names.lookup x = some .globalImplicit := by rfl) (hn : x ≠ "__name__" := by decide) (hdb : (x == ("__debug__" : Str)) = false := by decide)
    (he : ∀ env, starEach (e :: es) env = (false, eval e env) :: starEach es env := by intro _; rfl) (hpl : ∀ env, (backTo pos (starEach es env)).any (·.1) = false := by intro _; rfl) : EV C (.Call (.Name x p) (e :: es) [] pos) E M o M' := by
  obtain ⟨r, h1, h2⟩ := S
  exact EV.mk (fun X hX => pe_callB (h1 X hX) (by show X.env.scope.names.lookup x = _; rw [hX.sc]; exact hg) (by rw [hX.mg]; exact hm) hv (ua hX _) hn hdb (he X.env) (hpl X.env)) (ev_cb ha h2)
theorem EV.cty {T : String} {x : Str} {es : List Expr} (S : KS C (.type T) os M1 o M') (ha : EA C (e :: es) E M os M1) (hm : Bt C.g x) (hv : bootBuiltins x = some (.type T)) (hg : C.sc.names.lookup x = some .globalImplicit := by rfl) (hn : x ≠ "__name__" := by decide) (hdb : (x == ("__debug__" : Str)) = false := by decide)
    (he : ∀ env, starEach (e :: es) env = (false, eval e env) :: starEach es env := by intro _; rfl) (hpl : ∀ env, (backTo pos (starEach es env)).any (·.1) = false := by intro _; rfl) : EV C (.Call (.Name x p) (e :: es) [] pos) E M o M' := by
  obtain ⟨r, h1, h2⟩ := S
  exact EV.mk (fun X hX => pe_callTy (h1 X hX) (by show X.env.scope.names.lookup x = _; rw [hX.sc]; exact hg) (by rw [hX.mg]; exact hm) hv (ua hX _) hn hdb (he X.env) (hpl X.env)) (ev_cb ha h2)
theorem vsOne {I : Hp} {adr : List Addr} {vs : List V} (h : Vs I adr [o] vs) : ∃ v, vs = [v] ∧ Vo I adr o v := by
  cases h with
  | cons h r =>
    cases r
    exact ⟨_, rfl, h⟩
theorem vsTwo {I : Hp} {adr : List Addr} {vs : List V} (h : Vs I adr [o1, o2] vs) : ∃ v w, vs = [v, w] ∧ Vo I adr o1 v ∧ Vo I adr o2 w := by
  cases h with
  | cons h r =>
    obtain ⟨w, rfl, hw⟩ := vsOne r
    exact ⟨_, w, rfl, h, hw⟩
def lenD : D → Option Nat
  | .tup ds => some ds.length
  | .lst ds => some ds.length
  | _ => none
theorem KS.len {n : Nat} (h : lenD d = some n) : KS C (.builtin "len") [.dat d] M (.dat (.int (n : Int))) M := ⟨_, fun X hX => by
  have := call_len_seq (X := X)
  rw [hX.K] at this
  exact this, fun I H adr σ E vs Q s hv q => by
  obtain ⟨v, ev, hz⟩ := vsOne hv
  subst ev
  have hv := hz
  cases (show Rep I d v from hv) with
  | @tup p xs ds hp hr =>
    cases h
    refine ⟨p, xs, rfl, .inr (.inl (.inl (s.ex _ _ hp))), q _ I H adr s Grow.refl ?_⟩
    rw [hr.length]
    exact .int _
  | @lst p xs ds hp hr =>
    cases h
    refine ⟨p, xs, rfl, .inl (.inl (.inl (s.ex _ _ hp))), q _ I H adr s Grow.refl ?_⟩
    rw [hr.length]
    exact .int _
  | _ => cases h⟩
theorem KS.lenC {n : Nat} {ps : List O} (h : M[n]? = some (some ps)) : KS C (.builtin "len") [.adr n] M (.dat (.int (ps.length : Int))) M := ⟨_, fun X hX => by
  have := call_len_seq (X := X)
  rw [hX.K] at this
  exact this, fun I H adr σ E vs Q s hv q => by
  obtain ⟨v, ev, hz⟩ := vsOne hv
  subst ev
  have hv := hz
  obtain ⟨p, hp, rfl⟩ := hv
  obtain ⟨_, xs, h2, h3⟩ := s.sto.cell n p ps hp h
  refine ⟨p, xs, rfl, .inl (.inl (.inl h2)), q _ I H adr s Grow.refl ?_⟩
  rw [h3.length]
  exact .int _⟩
theorem reps_bl {I : Hp} : ∀ {bs : List Bool} {xs : List V}, Reps I (bs.map .bl) xs → xs = bs.map V.bl
  | [], _, .nil => rfl
  | b :: bs, _, .cons h r => by
    cases h
    rw [reps_bl r]
    rfl
theorem reps_int {I : Hp} : ∀ {ns : List Int} {xs : List V}, Reps I (ns.map .int) xs → xs = ns.map V.int
  | [], _, .nil => rfl
  | n :: ns, _, .cons h r => by
    cases h
    rw [reps_int r]
    rfl
theorem KS.sum {ns : List Int} : KS C (.builtin "sum") [.dat (.lst (ns.map .int))] M (.dat (.int ns.sum)) M := ⟨_, fun X hX => by
  have := cr_sum (X := X) hX.calm
  rw [hX.K] at this
  exact this, fun I H adr σ E vs Q s hv q => by
  obtain ⟨v, ev, hz⟩ := vsOne hv
  subst ev
  have hv := hz
  cases (show Rep I (.lst (ns.map .int)) v from hv) with
  | @lst p xs ds hp hr =>
    have e := reps_int hr
    subst e
    exact ⟨p, ns, rfl, .inl (.inl (s.ex _ _ hp)), q _ I H adr s Grow.refl (.int _)⟩⟩
theorem KS.all {bs : List Bool} : KS C (.builtin "all") [.dat (.lst (bs.map .bl))] M (.dat (.bl (bs.all id))) M := ⟨_, fun X hX => by
  have := cr_all (X := X) hX.calm
  rw [hX.K] at this
  exact this, fun I H adr σ E vs Q s hv q => by
  obtain ⟨v, ev, hz⟩ := vsOne hv
  subst ev
  have hv := hz
  cases (show Rep I (.lst (bs.map .bl)) v from hv) with
  | @lst p xs ds hp hr =>
    have e := reps_bl hr
    subst e
    exact ⟨p, bs, rfl, .inl (.inl (s.ex _ _ hp)), q _ I H adr s Grow.refl (.bl _)⟩⟩
theorem KS.any {bs : List Bool} : KS C (.builtin "any") [.dat (.lst (bs.map .bl))] M (.dat (.bl (bs.any id))) M := ⟨_, fun X hX => by
  have := cr_any (X := X) hX.calm
  rw [hX.K] at this
  exact this, fun I H adr σ E vs Q s hv q => by
  obtain ⟨v, ev, hz⟩ := vsOne hv
  subst ev
  have hv := hz
  cases (show Rep I (.lst (bs.map .bl)) v from hv) with
  | @lst p xs ds hp hr =>
    have e := reps_bl hr
    subst e
    exact ⟨p, bs, rfl, .inl (.inl (s.ex _ _ hp)), q _ I H adr s Grow.refl (.bl _)⟩⟩
theorem KS.minL {ns : List Int} {m : Int} (h : m ∈ ns) (hm : ∀ y ∈ ns, m ≤ y) : KS C (.builtin "min") [.dat (.lst (ns.map .int))] M (.dat (.int m)) M := ⟨_, fun X hX => by
  have := cr_min (X := X) hX.calm
  rw [hX.K] at this
  exact this, fun I H adr σ E vs Q s hv q => by
  obtain ⟨v, ev, hz⟩ := vsOne hv
  subst ev
  have hv := hz
  cases (show Rep I (.lst (ns.map .int)) v from hv) with
  | @lst p xs ds hp hr =>
    have e := reps_int hr
    subst e
    refine ⟨p, ns, rfl, .inl (.inl (s.ex _ _ hp)), List.length_pos_of_mem h, fun m' h1 h2 => ?_⟩
    have : m' = m := Int.le_antisymm (h2 m h) (hm m' h1)
    subst this
    exact q _ I H adr s Grow.refl (.int _)⟩
theorem KS.maxL {ns : List Int} {m : Int} (h : m ∈ ns) (hm : ∀ y ∈ ns, y ≤ m) : KS C (.builtin "max") [.dat (.lst (ns.map .int))] M (.dat (.int m)) M := ⟨_, fun X hX => by
  have := cr_max (X := X) hX.calm
  rw [hX.K] at this
  exact this, fun I H adr σ E vs Q s hv q => by
  obtain ⟨v, ev, hz⟩ := vsOne hv
  subst ev
  have hv := hz
  cases (show Rep I (.lst (ns.map .int)) v from hv) with
  | @lst p xs ds hp hr =>
    have e := reps_int hr
    subst e
    refine ⟨p, ns, rfl, .inl (.inl (s.ex _ _ hp)), List.length_pos_of_mem h, fun m' h1 h2 => ?_⟩
    have : m' = m := Int.le_antisymm (hm m' h1) (h2 m h)
    subst this
    exact q _ I H adr s Grow.refl (.int _)⟩
theorem KS.max2 : KS C (.builtin "max") [.dat (.int i), .dat (.int j)] M (.dat (.int (if j > i then j else i))) M := ⟨_, fun X hX => call_max2 hX.calm, fun I H adr σ E vs Q s hv q => by
  obtain ⟨v, w, ev, hz, hw⟩ := vsTwo hv
  subst ev
  have hv := hz
  cases rep_int hv
  cases rep_int hw
  exact ⟨i, j, rfl, q _ I H adr s Grow.refl (.int _)⟩⟩
theorem KS.abs : KS C (.builtin "abs") [.dat (.int i)] M (.dat (.int (i.natAbs : Int))) M := ⟨_, fun X hX => call_abs, fun I H adr σ E vs Q s hv q => by
  obtain ⟨v, ev, hz⟩ := vsOne hv
  subst ev
  have hv := hz
  cases rep_int hv
  refine ⟨i, rfl, q _ I H adr s Grow.refl ?_⟩
  have : (if i < 0 then -i else i) = (i.natAbs : Int) := by split <;> omega
  rw [this]
  exact .int _⟩
theorem KS.intI : KS C (.type "int") [.dat (.int i)] M (.dat (.int i)) M := ⟨_, fun X hX => call_int1, fun I H adr σ E vs Q s hv q => by
  obtain ⟨v, ev, hz⟩ := vsOne hv
  subst ev
  have hv := hz
  cases rep_int hv
  exact .inl ⟨i, rfl, q _ I H adr s Grow.refl (.int _)⟩⟩
theorem KS.intB : KS C (.type "int") [.dat (.bl k)] M (.dat (.int (if k then 1 else 0))) M := ⟨_, fun X hX => call_int1, fun I H adr σ E vs Q s hv q => by
  obtain ⟨v, ev, hz⟩ := vsOne hv
  subst ev
  have hv := hz
  cases rep_bl hv
  exact .inr ⟨k, rfl, q _ I H adr s Grow.refl (.int _)⟩⟩
def seqD : D → Option (List D)
  | .tup ds => some ds
  | .lst ds => some ds
  | _ => none
theorem KS.tuple {ds : List D} (h : seqD d = some ds) : KS C (.type "tuple") [.dat d] M (.dat (.tup ds)) M := ⟨_, fun X hX => by
  have := call_tuple_of (X := X)
  rw [hX.K] at this
  exact this, fun I H adr σ E vs Q s hv q => by
  obtain ⟨v, ev, hz⟩ := vsOne hv
  subst ev
  have hv := hz
  cases (show Rep I d v from hv) with
  | @tup p xs ds hp hr =>
    cases h
    exact ⟨p, xs, rfl, .inr ⟨.inl (.inl (s.ex _ _ hp)), q _ I H adr s Grow.refl hv⟩⟩
  | @lst p xs ds hp hr =>
    cases h
    refine ⟨p, xs, rfl, .inl ⟨.inl (.inl (s.ex _ _ hp)), fun l hl => ?_⟩⟩
    obtain ⟨s2, g2, r2⟩ := s.tup hl hr
    exact q _ _ _ _ s2 g2 r2
  | _ => cases h⟩
theorem KS.tupleC {n : Nat} {ds : List D} (h : M[n]? = some (some (ds.map .dat))) : KS C (.type "tuple") [.adr n] M (.dat (.tup ds)) M := ⟨_, fun X hX => by
  have := call_tuple_of (X := X)
  rw [hX.K] at this
  exact this, fun I H adr σ E vs Q s hv q => by
  obtain ⟨v, ev, hz⟩ := vsOne hv
  subst ev
  have hv := hz
  obtain ⟨p, hp, rfl⟩ := hv
  obtain ⟨_, xs, h2, h3⟩ := s.sto.cell n p _ hp h
  refine ⟨p, xs, rfl, .inl ⟨.inl (.inl h2), fun l hl => ?_⟩⟩
  obtain ⟨s2, g2, r2⟩ := s.tup hl h3.to
  exact q _ _ _ _ s2 g2 r2⟩
theorem KS.list {ds : List D} (h : seqD d = some ds) : KS C (.type "list") [.dat d] M (.dat (.lst ds)) M := ⟨_, fun X hX => by
  have := call_list_of (X := X)
  rw [hX.K] at this
  exact this, fun I H adr σ E vs Q s hv q => by
  obtain ⟨v, ev, hz⟩ := vsOne hv
  subst ev
  have hv := hz
  cases (show Rep I d v from hv) with
  | @tup p xs ds hp hr =>
    cases h
    refine ⟨p, xs, rfl, .inr (.inl (.inl (s.ex _ _ hp))), fun l hl => ?_⟩
    obtain ⟨s2, g2, r2⟩ := s.lst hl hr
    exact q _ _ _ _ s2 g2 r2
  | @lst p xs ds hp hr =>
    cases h
    refine ⟨p, xs, rfl, .inl (.inl (.inl (s.ex _ _ hp))), fun l hl => ?_⟩
    obtain ⟨s2, g2, r2⟩ := s.lst hl hr
    exact q _ _ _ _ s2 g2 r2
  | _ => cases h⟩
/-- list(..) that is a cell -/
theorem KS.listN {ds : List D} (h : seqD d = some ds) : KS C (.type "list") [.dat d] M (.adr M.length) (M ++ [some (ds.map .dat)]) := ⟨_, fun X hX => by
  have := call_list_of (X := X)
  rw [hX.K] at this
  exact this, fun I H adr σ E vs Q s hv q => by
  obtain ⟨v, ev, hz⟩ := vsOne hv
  subst ev
  have hv := hz
  cases (show Rep I d v from hv) with
  | @tup p xs ds hp hr =>
    cases h
    refine ⟨p, xs, rfl, .inr (.inl (.inl (s.ex _ _ hp))), fun l hl => ?_⟩
    obtain ⟨s2, g2, r2⟩ := s.cel hl (Vs.reps hr)
    exact q _ _ _ _ s2 g2 ⟨l, r2, rfl⟩
  | @lst p xs ds hp hr =>
    cases h
    refine ⟨p, xs, rfl, .inl (.inl (.inl (s.ex _ _ hp))), fun l hl => ?_⟩
    obtain ⟨s2, g2, r2⟩ := s.cel hl (Vs.reps hr)
    exact q _ _ _ _ s2 g2 ⟨l, r2, rfl⟩
  | _ => cases h⟩

/-! #### isinstance -/
def D.ty : D → String
  | .non => "NoneType" | .bl _ => "bool" | .int _ => "int" | .str _ => "str" | .tup _ => "tuple" | .lst _ => "list" | .dct _ _ => "dict"
theorem ty_of {K : PySem.W.Frag} {I H : Hp} {v : V} (e : Ex I H) (h : Rep I d v) : TyX K H v (.type d.ty) := by
  cases h with
  | non => exact .base .non
  | bl b => exact .base (.bl b)
  | int i => exact .base (.int i)
  | str x => exact .base (.str x)
  | tup h r => exact .base (.tup (e _ _ h))
  | lst h r => exact .base (.lst (e _ _ h))
  | dct h r => exact .base (.dK (e _ _ h))
/-- isinstance(x, T), T the name of a built-in class -/
theorem EV.isi {T : Str} {Tn : String} {x : Str} {pt : Pos} (ha : EV C a E M (.dat d) M') (hm : Bt C.g "isinstance") (hmT : Bt C.g T) (hv : bootBuiltins T = some (.type Tn)) (hk : kitB d.ty Tn = some k) (hx : x = "isinstance" := by rfl)
    (hg : C.sc.names.lookup x = some .globalImplicit := by rfl) (hgT : C.sc.names.lookup T = some .globalImplicit := by rfl) (hn : x ≠ "__name__" := by decide) (hdb : (x == ("__debug__" : Str)) = false := by decide) (hnT : T ≠ "__name__" := by decide) (hdbT : (T == ("__debug__" : Str)) = false := by decide)
    (hs : ∀ env, starEach [a, .Name T pt] env = (false, eval a env) :: starEach [.Name T pt] env := by intro _; rfl) (hpl : ∀ env, (backTo pos (starEach [.Name T pt] env)).any (·.1) = false := by intro _; rfl) : EV C (.Call (.Name x p) [a, .Name T pt] [] pos) E M (.dat (.bl k)) M' := by
  subst hx
  refine EV.mk (t := tCB (rIsi C.g.K) (tCons (UE C a) (tCons (tC (.ty Tn)) tNil))) (fun X hX => ?_) fun I H adr σ Q s q => ?_
  · have h1 := call_isi (X := X)
    rw [hX.K] at h1
    refine pe_callB h1 (by show X.env.scope.names.lookup _ = _; rw [hX.sc]; exact hg) (by rw [hX.mg]; exact hm) (by decide +kernel) (pa_cons (ue hX a) (pa_cons (pe_bltn (v := .ty Tn) (by show X.env.scope.names.lookup _ = _; rw [hX.sc]; exact hgT) (by rw [hX.mg]; exact hmT) hv rfl hnT hdbT) pa_nil) (hs X.env)) hn hdb (hs X.env) (hpl X.env)
  · refine ha I H adr σ _ s fun v I1 H1 adr1 s1 g1 v1 => ?_
    exact ⟨v, .ty Tn, _, _, k, rfl, .ty Tn, ty_of s1.ex v1, kit_ty hk, q _ I1 H1 adr1 s1 g1 (.bl _)⟩
/-- isinstance(x, (T1, T2)) -/
theorem EV.isi2 {T1 T2 : Str} {Tn1 Tn2 : String} {x : Str} {pt1 pt2 pt : Pos} {k1 k2 : Bool} {kt : Nat} (ha : EV C a E M (.dat d) M') (hm : Bt C.g "isinstance") (hm1 : Bt C.g T1) (hm2 : Bt C.g T2) (hv1 : bootBuiltins T1 = some (.type Tn1)) (hv2 : bootBuiltins T2 = some (.type Tn2)) (hk1 : kitB d.ty Tn1 = some k1) (hk2 : kitB d.ty Tn2 = some k2) (hx : x = "isinstance" := by rfl)
    (hg : C.sc.names.lookup x = some .globalImplicit := by rfl) (hg1 : C.sc.names.lookup T1 = some .globalImplicit := by rfl) (hg2 : C.sc.names.lookup T2 = some .globalImplicit := by rfl) (hn : x ≠ "__name__" := by decide) (hdb : (x == ("__debug__" : Str)) = false := by decide) (hn1 : T1 ≠ "__name__" := by decide) (hdb1 : (T1 == ("__debug__" : Str)) = false := by decide) (hn2 : T2 ≠ "__name__" := by decide) (hdb2 : (T2 == ("__debug__" : Str)) = false := by decide)
    (hs : ∀ env, starEach [a, .Tuple [.Name T1 pt1, .Name T2 pt2] kt pt] env = (false, eval a env) :: starEach [.Tuple [.Name T1 pt1, .Name T2 pt2] kt pt] env := by intro _; rfl) (hpl : ∀ env, (backTo pos (starEach [.Tuple [.Name T1 pt1, .Name T2 pt2] kt pt] env)).any (·.1) = false := by intro _; rfl) :
    EV C (.Call (.Name x p) [a, .Tuple [.Name T1 pt1, .Name T2 pt2] kt pt] [] pos) E M (.dat (.bl (k1 || k2))) M' := by
  subst hx
  refine EV.mk (t := tCB (rIsiT C.g.K) (tCons (UE C a) (tCons (tTup (tCons (tC (.ty Tn1)) (tCons (tC (.ty Tn2)) tNil))) tNil))) (fun X hX => ?_) fun I H adr σ Q s q => ?_
  · have h1 := call_isiT (X := X)
    rw [hX.K] at h1
    refine pe_callB h1 (by show X.env.scope.names.lookup _ = _; rw [hX.sc]; exact hg) (by rw [hX.mg]; exact hm) (by decide +kernel)
      (pa_cons (ue hX a) (pa_cons (pe_tup (pa_cons (pe_bltn (v := .ty Tn1) (by show X.env.scope.names.lookup _ = _; rw [hX.sc]; exact hg1) (by rw [hX.mg]; exact hm1) hv1 rfl hn1 hdb1) (pa_cons (pe_bltn (v := .ty Tn2) (by show X.env.scope.names.lookup _ = _; rw [hX.sc]; exact hg2) (by rw [hX.mg]; exact hm2) hv2 rfl hn2 hdb2) pa_nil))) pa_nil) (hs X.env)) hn hdb (hs X.env) (hpl X.env)
  · refine ha I H adr σ _ s fun v I1 H1 adr1 s1 g1 v1 => ?_
    refine ⟨by show 2 ≤ sizeLine; decide, fun tp htp => ?_⟩
    have hi := s1.ex.non htp
    have ex2 : Ex I1 (upd H1 tp (.tup [.ty Tn1, .ty Tn2])) := s1.ex.mut hi
    refine ⟨v, tp, [.ty Tn1, .ty Tn2], _, [.type Tn1, .type Tn2], k1 || k2, rfl, upd_same, .cons (.ty Tn1) (.cons (.ty Tn2) .nil), ty_of ex2 v1, ?_, ?_⟩
    · refine kitAny_cons (kit_ty hk1) (fun e => kitAny_cons (r := k1 || k2) (kit_ty hk2) (fun e2 => by rw [e, e2]; exact kitAny_nil) (fun e2 => by rw [e2]; simp)) (fun e => by rw [e]; rfl)
    · have g2 : Grow I1 H1 adr1 I1 (upd H1 tp (.tup [.ty Tn1, .ty Tn2])) adr1 :=
        ⟨Ex.refl _, ⟨[], by simp, by simp⟩, fun q u h _ _ => by rw [upd_ne (ne_of_none h htp)]; exact h, fun q u h n => ⟨u, by rw [upd_ne (ne_of_none h htp)]; exact h, n⟩, fun _ _ _ _ h _ => h, fun c q h => by rw [upd_ne (ne_of_none h htp)]; exact h⟩
      have t2 : Sto I1 (upd H1 tp (.tup [.ty Tn1, .ty Tn2])) adr1 M' := by
        refine ⟨s1.sto.len, s1.sto.nd, fun kk b ps h1 h2 => ?_, fun kk b h => ?_, s1.sto.amb.new htp⟩
        · obtain ⟨c1, ys, c2, c3⟩ := s1.sto.cell kk b ps h1 h2
          exact ⟨c1, ys, by rw [upd_ne (ne_of_none c2 htp)]; exact c2, c3⟩
        · obtain ⟨u, hu, n⟩ := s1.sto.dom kk b h
          exact ⟨u, by rw [upd_ne (ne_of_none hu htp)]; exact hu, n⟩
      exact q _ I1 _ adr1 (s1.mono g2 ex2 t2) (g1.trans g2) (.bl _)
end
end Ab
/-! Ab: targets, loops, comprehensions, methods, calls. -/
namespace Ab
open PySem PySem.Spec PyProof.Rows L2
variable [TabCtx]

/-! ### targets -/
def UG (C : Cc) (tg : Expr) : TG := fun v σ H Q => ∃ t : TG, (∀ X, CxIs C X → PG X tg t) ∧ t v σ H Q
def UGs (C : Cc) (tgs : List Expr) : TGs := fun vs σ H Q => ∃ t : TGs, (∀ X, CxIs C X → PGs X tgs t) ∧ t vs σ H Q
theorem ug {C : Cc} {X : Cx} (h : CxIs C X) (e : Expr) : PG X e (UG C e) := ⟨fun pins s σ H v u Q I r q => let ⟨_, p, q⟩ := q; (p X h).run pins s σ H v u Q I r q⟩
theorem ugs {C : Cc} {X : Cx} (h : CxIs C X) (es : List Expr) : PGs X es (UGs C es) := ⟨fun pins s σ H vs us Q I r q => let ⟨_, p, q⟩ := q; (p X h).run pins s σ H vs us Q I r q⟩
def EG (C : Cc) (tg : Expr) (o : O) (E : List O) (M : Mem) (E' : List O) (M' : Mem) : Prop :=
  ∀ (I H : Hp) (adr : List Addr) (σ : L2.St) (v : V) (Q : L2.St → Hp → Prop), Stt I H adr σ E M → Vo I adr o v → (∀ I' H' adr' σ', Stt I' H' adr' σ' E' M' → Grow I H adr I' H' adr' → Q σ' H') → UG C tg v σ H Q
def EGs (C : Cc) (tgs : List Expr) (os : List O) (E : List O) (M : Mem) (E' : List O) (M' : Mem) : Prop :=
  ∀ (I H : Hp) (adr : List Addr) (σ : L2.St) (vs : List V) (Q : L2.St → Hp → Prop), Stt I H adr σ E M → Vs I adr os vs → (∀ I' H' adr' σ', Stt I' H' adr' σ' E' M' → Grow I H adr I' H' adr' → Q σ' H') → UGs C tgs vs σ H Q
/-- what is forgotten -/
def Fg (E E' : List O) : Prop := E.length = E'.length ∧ ∀ (i : Nat) (o : O), E'[i]? = some o → o = .no ∨ E[i]? = some o
theorem Fg.refl {E : List O} : Fg E E := ⟨rfl, fun _ _ h => .inr h⟩
theorem Fg.cons {o : O} {E E' : List O} (h : Fg E E') : Fg (o :: E) (o :: E') := ⟨by simp [h.1], fun i p q => by
  cases i with
  | zero => exact .inr q
  | succ i => exact h.2 i p (by simpa using q)⟩
theorem Fg.no {o : O} {E E' : List O} (h : Fg E E') : Fg (o :: E) (.no :: E') := ⟨by simp [h.1], fun i p q => by
  cases i with
  | zero => exact .inl (by simpa using q.symm)
  | succ i => exact h.2 i p (by simpa using q)⟩
theorem Fg.nil : Fg [] [] := Fg.refl
theorem Stt.forget {I H : Hp} {adr : List Addr} {σ : L2.St} {E E' : List O} {M : Mem} (s : Stt I H adr σ E M) (f : Fg E E') : Stt I H adr σ E' M :=
  ⟨s.ex, s.sto, f.1.symm.trans s.len, fun i o ov h1 h2 => by
    rcases f.2 i o h1 with e | e
    · subst e
      cases ov with
      | none => rfl
      | some v => exact True.intro
    · exact s.slot i o ov e h2⟩

section
variable {C : Cc} {E E1 E2 E' : List O} {M M1 M2 M3 M' : Mem} {o o1 o2 o3 : O} {os : List O} {e a b c tg iter elt : Expr} {es : List Expr} {pos pos' p : Pos} {d d1 d2 : D} {i j : Int} {k k' : Bool} {r : Out} {body : List Stmt}
theorem EG.nm (i : Nat) {x : Str} (nd : C.N.Nodup) (hi : C.N[i]? = some x := by rfl) (hx : Loc C.sc x := by first | exact Or.inl rfl | exact Or.inr rfl) (hf : C.fn x = true ∨ C.sc.names.lookup x = some .local := by first | exact .inl rfl | exact .inr rfl) : EG C (.Name x pos) o E M (E.set i o) M :=
  fun I H adr σ v Q s hv q => ⟨gName i, fun X hX => pg_name (by rw [hX.N]; exact nd) (by rw [hX.N]; exact hi) (by rw [hX.sc]; exact hx) (hf.elim (fun z => .inl (hX.fn x z)) (fun z => .inr (by rw [hX.sc]; exact z))), q I H adr _ (s.set hv) Grow.refl⟩
theorem EGs.nil : EGs C [] [] E M E M := fun I H adr σ vs Q s hv q => by
  cases hv
  exact ⟨gNil, fun _ _ => pgs_nil, rfl, q I H adr σ s Grow.refl⟩
theorem EGs.cons (h : EG C a o E M E1 M1) (hr : EGs C es os E1 M1 E' M') (hs : ∀ env, (assignEach (a :: es) env).map (·.2) = assign a env :: (assignEach es env).map (·.2) := by intro _; rfl) : EGs C (a :: es) (o :: os) E M E' M' :=
  fun I H adr σ vs Q s hv q => by
    cases hv with
    | @cons _ v _ vs hv hr' =>
      refine ⟨gCons (UG C a) (UGs C es), fun X hX => pgs_cons (ug hX a) (ugs hX es) (hs X.env), v, vs, rfl, ?_⟩
      exact h I H adr σ v _ s hv fun I1 H1 adr1 σ1 s1 g1 => hr I1 H1 adr1 σ1 vs Q s1 (Vs.mono g1 hr') fun I2 H2 adr2 σ2 s2 g2 => q I2 H2 adr2 σ2 s2 (g1.trans g2)
theorem EG.tup {ds : List D} {kk : Nat} (h : EGs C es (ds.map .dat) E M E' M') (hn : ∀ env, (assignEach es env).length = ds.length := by intro _; rfl) (hst : ∀ env, (assignEach es env).findIdx? (·.1) = none := by intro _; rfl) : EG C (.Tuple es kk pos) (.dat (.tup ds)) E M E' M' :=
  fun I H adr σ v Q s hv q => by
    cases (show Rep I (.tup ds) v from hv) with
    | @tup p xs _ hp hr =>
      refine ⟨gTup C.g.K ds.length (UGs C es), fun X hX => by
        have := pg_tup (pos := pos) (k := kk) hX.calm (ugs hX es) (hn X.env) (hst X.env)
        rw [hX.K] at this
        exact this, p, xs, rfl, .inl (.inl (s.ex _ _ hp)), hr.length.symm, ?_⟩
      exact h I H adr σ xs Q s (Vs.reps hr) q
/-- o[i] = .., o a cell -/
theorem EG.sub {n jj : Nat} {ps : List O} (ho : EV C a E M (.adr n) M1) (hi : EV C b E M1 (.dat (.int i)) M2) (hm : M2[n]? = some (some ps)) (hj : ixN ps.length i = some jj)
    (ha : ∀ env v, assign (.Subscript a b pos) env v = (do
      let ov ← holding [v] (eval a env)
      let iv ← holding [v, ov] (eval b env)
      standAt pos
      holding [v, ov, iv] (setItem ov iv v)
      release [v, ov, iv] []) := by intro _ _; rfl) : EG C (.Subscript a b pos) o E M E (M2.set n (some (ps.set jj o))) :=
  fun I H adr σ v Q s hv q => ⟨gSub (UE C a) (UE C b) rSetL, fun X hX => pg_sub (ue hX a) (ue hX b) set_list (ha X.env),
    ho I H adr σ _ s fun x I1 H1 adr1 s1 g1 x1 => hi I1 H1 adr1 σ _ s1 fun y I2 H2 adr2 s2 g2 y2 => by
      cases rep_int y2
      obtain ⟨p, hp, rfl⟩ := x1.mono g2
      obtain ⟨_, xs, h2, h3⟩ := s2.sto.cell n p ps hp hm
      have hv2 : Vo I2 adr2 o v := (hv.mono g1).mono g2
      obtain ⟨s4, g4⟩ := s2.wri hp hm (Vs.set hv2 jj h3)
      exact ⟨p, xs, i, jj, rfl, rfl, h2, by rw [← h3.length]; exact hj, q _ _ _ _ s4 ((g1.trans g2).trans g4)⟩⟩
/-- target = e -/
theorem ST.asg (he : EV C e E M o M1) (hg : EG C tg o E M1 E' M') (hs : ∀ env, swapsWithSole [tg] e pos.line env = pure false := by intro _; rfl) (hw : ∀ env, swappedStores [tg] e env = pure none := by intro _; rfl) (h1 : ∀ env, (assignEach [tg] env).map (·.2) = [assign tg env] := by intro _; rfl) : ST C (.Assign [tg] e pos) E M (.nx E' M') :=
  ST.mk (fun X hX => ps_asg (ue hX e) (ug hX tg) (hs X.env) (hw X.env) (h1 X.env)) fun I H adr σ D s q => he I H adr σ _ s fun v I1 H1 adr1 s1 g1 v1 => hg I1 H1 adr1 σ v _ s1 v1 fun I2 H2 adr2 σ2 s2 g2 => q I2 H2 adr2 σ2 s2 (g1.trans g2)
theorem ST.forget {st : Stmt} (h : ST C st E M (.nx E1 M')) (f : Fg E1 E2) : ST C st E M (.nx E2 M') := fun I H adr σ D s q => h I H adr σ D s fun I1 H1 adr1 σ1 s1 g1 => q I1 H1 adr1 σ1 (s1.forget f) g1
theorem SB.forget {sts : List Stmt} (f : Fg E E1) (h : SB C sts E1 M r) : SB C sts E M r := fun I H adr σ D s q => h I H adr σ D (s.forget f) q

/-! ### what is walked -/
def Runs (J : It) (I1 H1 : Hp) (adr1 : List Addr) (n : Nat) (it : Nat → O) (inv : Mem → Prop) : Prop :=
  ∀ (I2 H2 : Hp) (adr2 : List Addr) (σ2 : L2.St) (E2 : List O) (M2 : Mem), Stt I2 H2 adr2 σ2 E2 M2 → Grow I1 H1 adr1 I2 H2 adr2 → inv M2 → J.stop n H2 ∧
    ∀ i, i < n → J.go i H2 ∧ ∀ x H3, J.yld i H2 x H3 → ∃ I3, Stt I3 H3 adr2 σ2 E2 M2 ∧ Grow I2 H2 adr2 I3 H3 adr2 ∧ Vo I3 adr2 (it i) x
def UI (C : Cc) (tg iter : Expr) : TI := fun σ H R => ∃ t : TI, (∀ X, CxIs C X → PI X tg iter t) ∧ t σ H R
theorem ui {C : Cc} {X : Cx} (h : CxIs C X) (tg iter : Expr) : PI X tg iter (UI C tg iter) := ⟨fun pins s σ H R I q => let ⟨_, p, q⟩ := q; (p X h).run pins s σ H R I q⟩
def EI (C : Cc) (tg iter : Expr) (E : List O) (M : Mem) (n : Nat) (it : Nat → O) (M1 : Mem) (inv : Mem → Prop) : Prop :=
  ∀ (I H : Hp) (adr : List Addr) (σ : L2.St) (R : It → Hp → Prop), Stt I H adr σ E M → (∀ J I1 H1 adr1, Stt I1 H1 adr1 σ E M1 → Grow I H adr I1 H1 adr1 → Runs J I1 H1 adr1 n it inv → R J H1) → UI C tg iter σ H R
abbrev tt : Mem → Prop := fun _ => True
def atO (ds : List D) (i : Nat) : O := .dat (ds.getD i .non)
theorem atO_get {ds : List D} {i : Nat} (h : i < ds.length) : ds[i]? = some (ds.getD i .non) := by
  rw [List.getD_eq_getElem?_getD, List.getElem?_eq_getElem h]
  rfl
theorem sql_uniq {K : PySem.W.Frag} {H : Hp} {p : Addr} {xs : List V} (h : H p = some (.lst xs)) : SqL K H p xs := .inl (.inl h)
theorem sqt_uniq {K : PySem.W.Frag} {H : Hp} {p : Addr} {xs : List V} (h : H p = some (.tup xs)) : SqT K H p xs := .inl (.inl h)
theorem EI.lst {ds : List D} (h : EV C iter E M (.dat (.lst ds)) M1) : EI C tg iter E M ds.length (atO ds) M1 tt := fun I H adr σ R s q =>
  ⟨iList C.g.K (UE C iter), fun X hX => by
    have := pi_list (tg := tg) (ue hX iter)
    rw [hX.K] at this
    exact this, h I H adr σ _ s fun v I1 H1 adr1 s1 g1 v1 => by
      cases (show Rep I1 (.lst ds) v from v1) with
      | @lst p xs _ hp hr =>
        refine ⟨p, rfl, ⟨xs, sql_uniq (s1.ex _ _ hp)⟩, q _ I1 H1 adr1 s1 g1 fun I2 H2 adr2 σ2 E2 M2 s2 g2 _ => ?_⟩
        have h2 : I2 p = some (.lst xs) := g2.ex _ _ hp
        have h3 : H2 p = some (.lst xs) := s2.ex _ _ h2
        refine ⟨⟨xs, sql_uniq h3, by rw [hr.length]; exact Nat.le_refl _⟩, fun i hi => ?_⟩
        obtain ⟨x, hx, hrx⟩ := hr.get (atO_get hi)
        refine ⟨⟨xs, x, sql_uniq h3, hx⟩, fun y H3 hy => ?_⟩
        obtain ⟨rfl, hy⟩ := hy
        have e : y = x := Option.some.inj ((hy xs (sql_uniq h3)).symm.trans hx)
        subst e
        exact ⟨I2, s2, Grow.refl, hrx.mono g2.ex⟩⟩
theorem EI.tup {ds : List D} (h : EV C iter E M (.dat (.tup ds)) M1) : EI C tg iter E M ds.length (atO ds) M1 tt := fun I H adr σ R s q =>
  ⟨iTup C.g.K (UE C iter), fun X hX => by
    have := pi_tup (tg := tg) (ue hX iter)
    rw [hX.K] at this
    exact this, h I H adr σ _ s fun v I1 H1 adr1 s1 g1 v1 => by
      cases (show Rep I1 (.tup ds) v from v1) with
      | @tup p xs _ hp hr =>
        refine ⟨p, rfl, ⟨xs, sqt_uniq (s1.ex _ _ hp)⟩, q _ I1 H1 adr1 s1 g1 fun I2 H2 adr2 σ2 E2 M2 s2 g2 _ => ?_⟩
        have h2 : I2 p = some (.tup xs) := g2.ex _ _ hp
        have h3 : H2 p = some (.tup xs) := s2.ex _ _ h2
        refine ⟨⟨xs, sqt_uniq h3, by rw [hr.length]; exact Nat.le_refl _⟩, fun i hi => ?_⟩
        obtain ⟨x, hx, hrx⟩ := hr.get (atO_get hi)
        refine ⟨⟨xs, x, sqt_uniq h3, hx⟩, fun y H3 hy => ?_⟩
        obtain ⟨rfl, hy⟩ := hy
        have e : y = x := Option.some.inj ((hy xs (sqt_uniq h3)).symm.trans hx)
        subst e
        exact ⟨I2, s2, Grow.refl, hrx.mono g2.ex⟩⟩
theorem EI.seq {ds : List D} (h : EV C iter E M (.dat d) M1) (hd : seqD d = some ds) : EI C tg iter E M ds.length (atO ds) M1 tt := by
  cases d <;> first | (cases hd; exact EI.tup h) | (cases hd; exact EI.lst h) | cases hd
/-- over a cell that the body leaves as it is -/
theorem EI.cell {n : Nat} {ps : List O} (h : EV C iter E M (.adr n) M1) (hm : M1[n]? = some (some ps)) : EI C tg iter E M ps.length (fun i => ps.getD i .no) M1 (fun M' => M'[n]? = some (some ps)) := fun I H adr σ R s q =>
  ⟨iList C.g.K (UE C iter), fun X hX => by
    have := pi_list (tg := tg) (ue hX iter)
    rw [hX.K] at this
    exact this, h I H adr σ _ s fun v I1 H1 adr1 s1 g1 v1 => by
      obtain ⟨p, hp, rfl⟩ := v1
      obtain ⟨_, xs, h2, h3⟩ := s1.sto.cell n p ps hp hm
      refine ⟨p, rfl, ⟨xs, sql_uniq h2⟩, q _ I1 H1 adr1 s1 g1 fun I2 H2 adr2 σ2 E2 M2 s2 g2 hinv => ?_⟩
      obtain ⟨_, ys, h4, h5⟩ := s2.sto.cell n p ps (g2.get hp) hinv
      refine ⟨⟨ys, sql_uniq h4, by rw [h5.length]; exact Nat.le_refl _⟩, fun i hi => ?_⟩
      have hget : ps[i]? = some (ps.getD i .no) := by
        rw [List.getD_eq_getElem?_getD, List.getElem?_eq_getElem hi]
        rfl
      obtain ⟨x, hx, hrx⟩ := h5.get hget
      refine ⟨⟨ys, x, sql_uniq h4, hx⟩, fun y H3 hy => ?_⟩
      obtain ⟨rfl, hy⟩ := hy
      have e : y = x := Option.some.inj ((hy ys (sql_uniq h4)).symm.trans hx)
      subst e
      exact ⟨I2, s2, Grow.refl, hrx⟩⟩
def atI0 (lo : Int) (i : Nat) : O := .dat (.int (lo + i))
theorem EI.rng1 {x : Str} (h : EV C a E M (.dat (.int j)) M1) (hm : Bt C.g "range") (hj : -(2 ^ 62) ≤ j ∧ j < 2 ^ 62) (hx : x = "range" := by rfl) (hg : C.sc.names.lookup x = some .globalImplicit := by rfl)
    (hs : ∀ env, starEach [a] env = [(false, eval a env)] := by intro _; rfl) : EI C tg (.Call (.Name x p) [a] [] pos) E M j.toNat (atI0 0) M1 tt := fun I H adr σ R s q => by
  subst hx
  refine ⟨iRng1 (tCons (UE C a) tNil), fun X hX => pi_range1 (by show X.env.scope.names.lookup _ = _; rw [hX.sc]; exact hg) (by rw [hX.mg]; exact hm) (pa_cons (ue hX a) pa_nil (hs X.env)) (hs X.env), ?_⟩
  refine h I H adr σ _ s fun v I1 H1 adr1 s1 g1 v1 => ?_
  cases rep_int v1
  refine ⟨j, rfl, hj.1, hj.2, q _ I1 H1 adr1 s1 g1 fun I2 H2 adr2 σ2 E2 M2 s2 g2 _ => ⟨Nat.le_refl _, fun i hi => ⟨hi, fun y H3 hy => ?_⟩⟩⟩
  obtain ⟨rfl, rfl⟩ := hy
  exact ⟨I2, s2, Grow.refl, .int _⟩
theorem EI.rng2 {x : Str} (h : EV C a E M (.dat (.int i)) M1) (h' : EV C b E M1 (.dat (.int j)) M2) (hm : Bt C.g "range") (hi : -(2 ^ 62) ≤ i ∧ i < 2 ^ 62) (hj : -(2 ^ 62) ≤ j ∧ j < 2 ^ 62) (hx : x = "range" := by rfl) (hg : C.sc.names.lookup x = some .globalImplicit := by rfl)
    (hs : ∀ env, starEach [a, b] env = [(false, eval a env), (false, eval b env)] := by intro _; rfl) (hs2 : ∀ env, starEach [b] env = [(false, eval b env)] := by intro _; rfl) : EI C tg (.Call (.Name x p) [a, b] [] pos) E M (j - i).toNat (atI0 i) M2 tt := fun I H adr σ R s q => by
  subst hx
  refine ⟨iRng2 (tCons (UE C a) (tCons (UE C b) tNil)), fun X hX => pi_range2 (by show X.env.scope.names.lookup _ = _; rw [hX.sc]; exact hg) (by rw [hX.mg]; exact hm) (pa_cons (ue hX a) (pa_cons (ue hX b) pa_nil (hs2 X.env)) (by rw [hs X.env, hs2 X.env])) (hs X.env) (hs2 X.env), ?_⟩
  refine h I H adr σ _ s fun v I1 H1 adr1 s1 g1 v1 => h' I1 H1 adr1 σ _ s1 fun w I2 H2 adr2 s2 g2 w2 => ?_
  cases rep_int v1
  cases rep_int w2
  refine ⟨i, j, rfl, ⟨hi.1, hi.2, hj.1, hj.2⟩, q _ I2 H2 adr2 s2 (g1.trans g2) fun I3 H3 adr3 σ3 E3 M3 s3 g3 _ => ⟨Nat.le_refl _, fun n hn => ⟨hn, fun y H4 hy => ?_⟩⟩⟩
  obtain ⟨rfl, rfl⟩ := hy
  exact ⟨I3, s3, Grow.refl, .int _⟩
def atZ (ds es : List D) (i : Nat) : O := .dat (.tup [ds.getD i .non, es.getD i .non])
theorem EI.zip {ds es : List D} {x : Str} {elts : List Expr} {kk : Nat} {tp : Pos} (h1 : EV C a E M (.dat d1) M1) (h2 : EV C b E M1 (.dat d2) M2) (hd : (d1 = .tup ds ∧ d2 = .tup es) ∨ (d1 = .lst ds ∧ d2 = .lst es)) (hm : Bt C.g "zip") (hx : x = "zip" := by rfl) (hg : C.sc.names.lookup x = some .globalImplicit := by rfl)
    (hs : ∀ env, starEach [a, b] env = (false, eval a env) :: starEach [b] env := by intro _; rfl) (hs2 : ∀ env, starEach [b] env = (false, eval b env) :: starEach [] env := by intro _; rfl) (hpl : ∀ env, (backTo pos (starEach [b] env)).any (·.1) = false := by intro _; rfl) :
    EI C (.Tuple elts kk tp) (.Call (.Name x p) [a, b] [] pos) E M (min ds.length es.length) (atZ ds es) M2 tt := fun I H adr σ R s q => by
  subst hx
  refine ⟨RZ.iZipA C.g.K (tCons (UE C a) (tCons (UE C b) tNil)), fun X hX => by
    have := RZ.pi_zipA (tpos := tp) (elts := elts) (kk := kk) (p := p) (pos := pos) (X := X) (by show X.env.scope.names.lookup _ = _; rw [hX.sc]; exact hg) (by rw [hX.mg]; exact hm) (pa_cons (ue hX a) (pa_cons (ue hX b) pa_nil (hs2 X.env)) (hs X.env)) (hs X.env) (hpl X.env)
    rw [hX.K] at this
    exact this, ?_⟩
  refine h1 I H adr σ _ s fun v I1 H1 adr1 s1 g1 v1 => h2 I1 H1 adr1 σ _ s1 fun w I2 H2 adr2 s2 g2 w2 => ?_
  have v2 := v1.mono g2
  have turn : ∀ {xs ys : List V} {I3 H3 : Hp} {adr3 : List Addr} {σ3 : L2.St} {E3 : List O} {M3 : Mem} (hr : Reps I2 ds xs) (hr' : Reps I2 es ys) (s3 : Stt I3 H3 adr3 σ3 E3 M3) (g3 : Grow I2 H2 adr2 I3 H3 adr3) (n : Nat) (hn : n < min ds.length es.length) (T : Addr) (hT : H3 T = none) (x y : V) (hx : xs[n]? = some x) (hy : ys[n]? = some y),
      ∃ I4, Stt I4 (upd H3 T (.tup [x, y])) adr3 σ3 E3 M3 ∧ Grow I3 H3 adr3 I4 (upd H3 T (.tup [x, y])) adr3 ∧ Vo I4 adr3 (atZ ds es n) (.ref T) := fun {xs ys I3 H3 adr3 σ3 E3 M3} hr hr' s3 g3 n hn T hT x y hx hy => by
    obtain ⟨x', ex, rx⟩ := hr.get (atO_get (show n < ds.length by omega))
    obtain ⟨y', ey, ry⟩ := hr'.get (atO_get (show n < es.length by omega))
    have e1 : x' = x := Option.some.inj (ex.symm.trans hx)
    have e2 : y' = y := Option.some.inj (ey.symm.trans hy)
    subst e1 e2
    obtain ⟨s4, g4, r4⟩ := s3.tup hT (.cons (rx.mono g3.ex) (.cons (ry.mono g3.ex) .nil))
    exact ⟨_, s4, g4, r4⟩
  rcases hd with ⟨rfl, rfl⟩ | ⟨rfl, rfl⟩
  · cases (show Rep I2 (.tup ds) v from v2) with
    | @tup p1 xs _ hp hr =>
      cases (show Rep I2 (.tup es) w from w2) with
      | @tup p2 ys _ hp' hr' =>
        refine ⟨p1, p2, xs, ys, rfl, .inr ⟨sqt_uniq (s2.ex _ _ hp), sqt_uniq (s2.ex _ _ hp'), q _ I2 H2 adr2 s2 (g1.trans g2) fun I3 H3 adr3 σ3 E3 M3 s3 g3 _ => ?_⟩⟩
        have a1 : SqT C.g.K H3 p1 xs := sqt_uniq (s3.ex _ _ (g3.ex _ _ hp))
        have a2 : SqT C.g.K H3 p2 ys := sqt_uniq (s3.ex _ _ (g3.ex _ _ hp'))
        have l1 := hr.length
        have l2 := hr'.length
        refine ⟨⟨xs, ys, a1, a2, by omega⟩, fun n hn => ?_⟩
        have b1 : xs[n]? = some (xs[n]'(by omega)) := List.getElem?_eq_getElem _
        have b2 : ys[n]? = some (ys[n]'(by omega)) := List.getElem?_eq_getElem _
        refine ⟨⟨xs, ys, _, _, a1, a2, b1, b2⟩, fun z H4 hz => ?_⟩
        obtain ⟨T, x, y, rfl, hT, rfl, f1, f2⟩ := hz
        exact turn hr hr' s3 g3 n hn T hT x y (f1 _ a1) (f2 _ a2)
  · cases (show Rep I2 (.lst ds) v from v2) with
    | @lst p1 xs _ hp hr =>
      cases (show Rep I2 (.lst es) w from w2) with
      | @lst p2 ys _ hp' hr' =>
        refine ⟨p1, p2, xs, ys, rfl, .inl ⟨sql_uniq (s2.ex _ _ hp), sql_uniq (s2.ex _ _ hp'), q _ I2 H2 adr2 s2 (g1.trans g2) fun I3 H3 adr3 σ3 E3 M3 s3 g3 _ => ?_⟩⟩
        have a1 : SqL C.g.K H3 p1 xs := sql_uniq (s3.ex _ _ (g3.ex _ _ hp))
        have a2 : SqL C.g.K H3 p2 ys := sql_uniq (s3.ex _ _ (g3.ex _ _ hp'))
        have l1 := hr.length
        have l2 := hr'.length
        refine ⟨⟨xs, ys, a1, a2, by omega⟩, fun n hn => ?_⟩
        have b1 : xs[n]? = some (xs[n]'(by omega)) := List.getElem?_eq_getElem _
        have b2 : ys[n]? = some (ys[n]'(by omega)) := List.getElem?_eq_getElem _
        refine ⟨⟨xs, ys, _, _, a1, a2, b1, b2⟩, fun z H4 hz => ?_⟩
        obtain ⟨T, x, y, rfl, hT, rfl, f1, f2⟩ := hz
        exact turn hr hr' s3 g3 n hn T hT x y (f1 _ a1) (f2 _ a2)

/-! ### for -/
theorem ST.for {E_ : Nat → List O} {M_ : Nat → Mem} {n m : Nat} {it : Nat → O} {inv : Mem → Prop} (hs : EI C tg iter E M n it M1 inv) (hE : Fg E (E_ 0)) (hM : M_ 0 = M1) (hm : m ≤ n) (hinv : ∀ i, i ≤ m → inv (M_ i))
    (step : ∀ i, i < m → ∃ E1 Ma E2, EG C tg (it i) (E_ i) (M_ i) E1 Ma ∧ Fg E2 (E_ (i + 1)) ∧ (SB C body E1 Ma (.nx E2 (M_ (i + 1))) ∨ SB C body E1 Ma (.ct E2 (M_ (i + 1)))))
    (last : (m = n ∧ r = .nx (E_ n) (M_ n)) ∨ (m < n ∧ ∃ E1 Ma, EG C tg (it m) (E_ m) (M_ m) E1 Ma ∧ ((∃ o M', SB C body E1 Ma (.rt o M') ∧ r = .rt o M') ∨ ∃ E' M', SB C body E1 Ma (.bk E' M') ∧ r = .nx E' M')))
    (hf : ∀ env x, foldedSetIterable iter env x = pure x := by intro _ _; rfl) : ST C (.For tg iter body [] pos) E M r := by
  subst hM
  refine ST.mk (fun X hX => ps_for hX.po hX.calm (ui hX tg iter) (ug hX tg) (ub hX body) (hf X.env)) fun I H adr σ D s q => ?_
  refine hs I H adr σ _ s fun J I1 H1 adr1 s1 g1 hr => ?_
  refine ⟨fun i μ σ' H' => i ≤ m ∧ μ = n - i ∧ ∃ I2 adr2, Stt I2 H' adr2 σ' (E_ i) (M_ i) ∧ Grow I1 H1 adr1 I2 H' adr2, ⟨n, Nat.zero_le _, by omega, I1, adr1, s1.forget hE, Grow.refl⟩, ?_⟩
  rintro i μ σ' H' ⟨hi, rfl, I2, adr2, s2, g2⟩
  obtain ⟨st, go⟩ := hr I2 H' adr2 σ' (E_ i) (M_ i) s2 g2 (hinv i hi)
  by_cases him : i < m
  · obtain ⟨Ea, Ma, Eb, hg, hfg, hb⟩ := step i him
    obtain ⟨g0, gy⟩ := go i (by omega)
    refine .inr ⟨g0, fun σ'' H'' => ∃ I3 adr3, Stt I3 H'' adr3 σ'' (E_ (i + 1)) (M_ (i + 1)) ∧ Grow I1 H1 adr1 I3 H'' adr3, fun σ'' H'' hN => ⟨n - (i + 1), by omega, by omega, rfl, hN⟩, fun x H3 hy => ?_⟩
    obtain ⟨I3, s3, g3, v3⟩ := gy x H3 hy
    refine hg I3 H3 adr2 σ' x _ s3 v3 fun I4 H4 adr4 σ4 s4 g4 => ?_
    rcases hb with hb | hb
    · exact hb I4 H4 adr4 σ4 _ s4 fun I5 H5 adr5 σ5 s5 g5 => ⟨I5, adr5, s5.forget hfg, ((g2.trans g3).trans g4).trans g5⟩
    · exact hb I4 H4 adr4 σ4 _ s4 fun I5 H5 adr5 σ5 s5 g5 => ⟨I5, adr5, s5.forget hfg, ((g2.trans g3).trans g4).trans g5⟩
  · have e : i = m := by omega
    subst e
    rcases last with ⟨hn, hr'⟩ | ⟨hn, Ea, Ma, hg, hb⟩
    · subst hn hr'
      exact .inl ⟨st, q I2 H' adr2 σ' s2 (g1.trans g2)⟩
    · obtain ⟨g0, gy⟩ := go i hn
      refine .inr ⟨g0, fun _ _ => False, fun _ _ h => h.elim, fun x H3 hy => ?_⟩
      obtain ⟨I3, s3, g3, v3⟩ := gy x H3 hy
      refine hg I3 H3 adr2 σ' x _ s3 v3 fun I4 H4 adr4 σ4 s4 g4 => ?_
      rcases hb with ⟨o, M', hb, hr'⟩ | ⟨E', M', hb, hr'⟩
      · subst hr'
        exact hb I4 H4 adr4 σ4 _ s4 fun v I5 H5 adr5 s5 g5 v5 => q v I5 H5 adr5 s5 ((((g1.trans g2).trans g3).trans g4).trans g5) v5
      · subst hr'
        exact hb I4 H4 adr4 σ4 _ s4 fun I5 H5 adr5 σ5 s5 g5 => q I5 H5 adr5 σ5 s5 ((((g1.trans g2).trans g3).trans g4).trans g5)
/-- a loop that goes through, its target one name -/
theorem ST.forN (jx : Nat) {x : Str} {E_ : Nat → List O} {M_ : Nat → Mem} {n : Nat} {it : Nat → O} {inv : Mem → Prop} (hs : EI C (.Name x p) iter E M n it M1 inv) (hE : Fg E (E_ 0)) (hM : M_ 0 = M1) (hinv : ∀ i, i ≤ n → inv (M_ i)) (nd : C.N.Nodup)
    (step : ∀ i, i < n → ∃ E2, Fg E2 (E_ (i + 1)) ∧ SB C body ((E_ i).set jx (it i)) (M_ i) (.nx E2 (M_ (i + 1))))
    (hi : C.N[jx]? = some x := by rfl) (hx : Loc C.sc x := by first | exact Or.inl rfl | exact Or.inr rfl) (hf' : C.fn x = true ∨ C.sc.names.lookup x = some .local := by first | exact .inl rfl | exact .inr rfl) (hf : ∀ env x, foldedSetIterable iter env x = pure x := by intro _ _; rfl) : ST C (.For (.Name x p) iter body [] pos) E M (.nx (E_ n) (M_ n)) :=
  ST.for hs hE hM (Nat.le_refl n) hinv (fun i h => let ⟨E2, a, b⟩ := step i h; ⟨_, _, E2, EG.nm jx nd hi hx hf', a, .inl b⟩) (.inl ⟨rfl, rfl⟩) hf

/-! ### while -/
theorem ST.while {E_ : Nat → List O} {M_ : Nat → Mem} {m : Nat} (hE : Fg E (E_ 0)) (hM : M_ 0 = M) (step : ∀ i, i < m → ∃ M1 E2, ET C c (E_ i) (M_ i) true M1 ∧ Fg E2 (E_ (i + 1)) ∧ SB C body (E_ i) M1 (.nx E2 (M_ (i + 1))))
    (last : ET C c (E_ m) (M_ m) false M') : ST C (.While c body [] pos) E M (.nx (E_ m) M') := by
  subst hM
  refine ST.mk (fun X hX => ps_while hX.po (ut hX c) (ub hX body)) fun I H adr σ D s q => ?_
  refine ⟨fun μ σ' H' => ∃ i, i ≤ m ∧ μ = m - i ∧ ∃ I2 adr2, Stt I2 H' adr2 σ' (E_ i) (M_ i) ∧ Grow I H adr I2 H' adr2, ⟨m, 0, Nat.zero_le _, by omega, I, adr, s.forget hE, Grow.refl⟩, ?_⟩
  rintro μ σ' H' ⟨i, hi, rfl, I2, adr2, s2, g2⟩
  by_cases him : i < m
  · obtain ⟨M1, E2, hc, hfg, hb⟩ := step i him
    refine hc I2 H' adr2 σ' _ s2 fun I3 H3 adr3 s3 g3 => ?_
    refine ⟨fun σ'' H'' => ∃ I4 adr4, Stt I4 H'' adr4 σ'' (E_ (i + 1)) (M_ (i + 1)) ∧ Grow I H adr I4 H'' adr4, fun σ'' H'' hN => ⟨m - (i + 1), by omega, i + 1, by omega, rfl, hN⟩, ?_⟩
    exact hb I3 H3 adr3 σ' _ s3 fun I5 H5 adr5 σ5 s5 g5 => ⟨I5, adr5, s5.forget hfg, (g2.trans g3).trans g5⟩
  · have e : i = m := by omega
    subst e
    refine last I2 H' adr2 σ' _ s2 fun I3 H3 adr3 s3 g3 => ?_
    exact q I3 H3 adr3 σ' s3 (g2.trans g3)
end
end Ab
/-! Ab: comprehensions, methods, calls. -/
namespace Ab
open PySem PySem.Spec PyProof.Rows L2
variable [TabCtx]

def Cc.blk (C : Cc) (scope : Scope) : Cc := { C with sc := relS scope C.sc, fn := fun x => scope.names.lookup x == some .cell, W := W0, cd := none }
theorem cx_blk {C : Cc} {X : Cx} (h : CxIs C X) (s : Shared) (H : Hp) (scope : Scope) (A : Addr) (cl : List (Str × Addr)) (fp : List Addr) : CxIs (C.blk scope) (X.blk s H scope (compEnvC scope cl A X.env) fp) where
  P := h.P
  w := h.w
  K := h.K
  mg := h.mg
  base := h.base
  N := h.N
  sc := by
    show relS scope X.env.scope = relS scope C.sc
    rw [h.sc]
  calm := h.calm
  room := h.room
  cd := fun _ _ z => by cases z
  fr := h.fr
  po := PassesOwn.never
  tk := takes0
  fn := fun x q => q

/-! ### own slots -/
def wipeE (E : List O) : List Nat → List O
  | [] => E
  | v :: vs => (wipeE E vs).set v .no
theorem wipe_get (σ : L2.St) : ∀ (vs : List Nat) (i : Nat), i ∉ vs → (wipe σ vs)[i]? = σ[i]?
  | [], _, _ => rfl
  | v :: vs, i, h => by
    unfold wipe
    rw [List.getElem?_set_ne (fun z => h (by rw [z]; exact List.mem_cons_self))]
    exact wipe_get σ vs i fun z => h (List.mem_cons_of_mem _ z)
theorem wipe_in (σ : L2.St) : ∀ (vs : List Nat) (i : Nat), i ∈ vs → i < σ.length → (wipe σ vs)[i]? = some none
  | [], _, h, _ => by simp at h
  | v :: vs, i, h, hl => by
    unfold wipe
    by_cases e : v = i
    · subst e
      rw [List.getElem?_set_self (by rw [wipe_length]; exact hl)]
    · rw [List.getElem?_set_ne e]
      refine wipe_in σ vs i ?_ hl
      rcases List.mem_cons.mp h with z | z
      · exact absurd z.symm e
      · exact z
theorem wipe_eq {σ σ' : L2.St} {vs : List Nat} (hl : σ'.length = σ.length) (h : ∀ (i : Nat), i ∉ vs → σ'[i]? = σ[i]?) : wipe σ' vs = wipe σ vs := by
  refine List.ext_getElem? fun i => ?_
  by_cases hi : i ∈ vs
  · by_cases hb : i < σ.length
    · rw [wipe_in σ vs i hi hb, wipe_in σ' vs i hi (by rw [hl]; exact hb)]
    · rw [List.getElem?_eq_none (by rw [wipe_length, hl]; exact Nat.le_of_not_lt hb), List.getElem?_eq_none (by rw [wipe_length]; exact Nat.le_of_not_lt hb)]
  · rw [wipe_get _ _ _ hi, wipe_get _ _ _ hi]
    exact h i hi
theorem wipeE_length (E : List O) : ∀ vs : List Nat, (wipeE E vs).length = E.length
  | [] => rfl
  | v :: vs => by unfold wipeE; rw [List.length_set, wipeE_length E vs]
theorem wipeE_get (E : List O) : ∀ (vs : List Nat) (i : Nat) (o : O), (wipeE E vs)[i]? = some o → o = .no ∨ (i ∉ vs ∧ E[i]? = some o)
  | [], _, _, h => .inr ⟨by simp, h⟩
  | v :: vs, i, o, h => by
    unfold wipeE at h
    by_cases e : v = i
    · subst e
      by_cases hb : v < (wipeE E vs).length
      · rw [List.getElem?_set_self hb] at h
        exact .inl (Option.some.inj h).symm
      · rw [List.getElem?_eq_none (by rw [List.length_set]; exact Nat.le_of_not_lt hb)] at h
        cases h
    · rw [List.getElem?_set_ne e] at h
      rcases wipeE_get E vs i o h with z | ⟨z1, z2⟩
      · exact .inl z
      · exact .inr ⟨fun q => (List.mem_cons.mp q).elim (fun q => e q.symm) z1, z2⟩
theorem Stt.wipe {I H : Hp} {adr : List Addr} {σ : L2.St} {E : List O} {M : Mem} (s : Stt I H adr σ E M) (vs : List Nat) : Stt I H adr (wipe σ vs) (wipeE E vs) M :=
  ⟨s.ex, s.sto, by rw [wipeE_length, wipe_length]; exact s.len, fun i o ov h1 h2 => by
    rcases wipeE_get E vs i o h1 with e | ⟨hi, e⟩
    · subst e
      cases ov with
      | none => rfl
      | some v => exact True.intro
    · rw [wipe_get σ vs i hi] at h2
      exact s.slot i o ov e h2⟩

/-- a target that turns the slots vs alone -/
def EGv (C : Cc) (vs : List Nat) (tg : Expr) (o : O) (E : List O) (M : Mem) (E' : List O) (M' : Mem) : Prop :=
  ∀ (I H : Hp) (adr : List Addr) (σ : L2.St) (v : V) (Q : L2.St → Hp → Prop), Stt I H adr σ E M → Vo I adr o v → (∀ I' H' adr' σ', Stt I' H' adr' σ' E' M' → Grow I H adr I' H' adr' → σ'.length = σ.length → (∀ (i : Nat), i ∉ vs → σ'[i]? = σ[i]?) → Q σ' H') → UG C tg v σ H Q
def EGvs (C : Cc) (vs : List Nat) (tgs : List Expr) (os : List O) (E : List O) (M : Mem) (E' : List O) (M' : Mem) : Prop :=
  ∀ (I H : Hp) (adr : List Addr) (σ : L2.St) (xs : List V) (Q : L2.St → Hp → Prop), Stt I H adr σ E M → Vs I adr os xs → (∀ I' H' adr' σ', Stt I' H' adr' σ' E' M' → Grow I H adr I' H' adr' → σ'.length = σ.length → (∀ (i : Nat), i ∉ vs → σ'[i]? = σ[i]?) → Q σ' H') → UGs C tgs xs σ H Q
def UP (C : Cc) (ifs : List Expr) : TT := fun σ H Q => ∃ t : TT, (∀ X, CxIs C X → PTs X ifs t) ∧ t σ H Q
theorem up {C : Cc} {X : Cx} (h : CxIs C X) (ifs : List Expr) : PTs X ifs (UP C ifs) := ⟨fun pins s σ H Q I q => let ⟨_, p, q⟩ := q; (p X h).run pins s σ H Q I q⟩
def EP (C : Cc) (ifs : List Expr) (E : List O) (M : Mem) (b : Bool) (M' : Mem) : Prop := Et (UP C ifs) E M b M'

section
variable {C : Cc} {E E1 E2 E' : List O} {M M1 M2 M3 M' : Mem} {o o1 o2 o3 : O} {os : List O} {e a b c tg iter elt : Expr} {es : List Expr} {pos pos' p : Pos} {d d1 d2 : D} {i j : Int} {k k' : Bool} {r : Out} {body : List Stmt} {vs : List Nat}
theorem EGv.nm (i : Nat) {x : Str} (nd : C.N.Nodup) (hv : i ∈ vs) (hi : C.N[i]? = some x := by rfl) (hx : Loc C.sc x := by first | exact Or.inl rfl | exact Or.inr rfl) (hf : C.fn x = true ∨ C.sc.names.lookup x = some .local := by first | exact .inl rfl | exact .inr rfl) : EGv C vs (.Name x pos) o E M (E.set i o) M :=
  fun I H adr σ v Q s hw q => ⟨gName i, fun X hX => pg_name (by rw [hX.N]; exact nd) (by rw [hX.N]; exact hi) (by rw [hX.sc]; exact hx) (hf.elim (fun z => .inl (hX.fn x z)) (fun z => .inr (by rw [hX.sc]; exact z))),
    q I H adr _ (s.set hw) Grow.refl (List.length_set) fun j hj => List.getElem?_set_ne fun z => hj (by rw [← z]; exact hv)⟩
theorem EGvs.nil : EGvs C vs [] [] E M E M := fun I H adr σ xs Q s hv q => by
  cases hv
  exact ⟨gNil, fun _ _ => pgs_nil, rfl, q I H adr σ s Grow.refl rfl fun _ _ => rfl⟩
theorem EGvs.cons (h : EGv C vs a o E M E1 M1) (hr : EGvs C vs es os E1 M1 E' M') (hs : ∀ env, (assignEach (a :: es) env).map (·.2) = assign a env :: (assignEach es env).map (·.2) := by intro _; rfl) : EGvs C vs (a :: es) (o :: os) E M E' M' :=
  fun I H adr σ xs Q s hv q => by
    cases hv with
    | @cons _ v _ xs hv hr' =>
      refine ⟨gCons (UG C a) (UGs C es), fun X hX => pgs_cons (ug hX a) (ugs hX es) (hs X.env), v, xs, rfl, ?_⟩
      exact h I H adr σ v _ s hv fun I1 H1 adr1 σ1 s1 g1 l1 f1 => hr I1 H1 adr1 σ1 xs Q s1 (Vs.mono g1 hr') fun I2 H2 adr2 σ2 s2 g2 l2 f2 => q I2 H2 adr2 σ2 s2 (g1.trans g2) (l2.trans l1) fun i hi => (f2 i hi).trans (f1 i hi)
theorem EGv.tup {ds : List D} {kk : Nat} (h : EGvs C vs es (ds.map .dat) E M E' M') (hn : ∀ env, (assignEach es env).length = ds.length := by intro _; rfl) (hst : ∀ env, (assignEach es env).findIdx? (·.1) = none := by intro _; rfl) : EGv C vs (.Tuple es kk pos) (.dat (.tup ds)) E M E' M' :=
  fun I H adr σ v Q s hv q => by
    cases (show Rep I (.tup ds) v from hv) with
    | @tup p xs _ hp hr =>
      refine ⟨gTup C.g.K ds.length (UGs C es), fun X hX => by
        have := pg_tup (pos := pos) (k := kk) hX.calm (ugs hX es) (hn X.env) (hst X.env)
        rw [hX.K] at this
        exact this, p, xs, rfl, .inl (.inl (s.ex _ _ hp)), hr.length.symm, ?_⟩
      exact h I H adr σ xs Q s (Vs.reps hr) q
theorem EP.nil : EP C [] E M true M := fun I H adr σ Q s q => ⟨tYes, fun _ _ => pts_nil, q I H adr s Grow.refl⟩
theorem EP.one (h : ET C c E M k M') : EP C [c] E M k M' := fun I H adr σ Q s q => ⟨UT C c, fun X hX => pts_one (ut hX c), h I H adr σ Q s q⟩

/-! ### comprehensions -/
structure LC (C : Cc) (elt tg iter : Expr) (ifs : List Expr) (scope : Scope) (own : List (Str × Nat)) (E : List O) (M : Mem) (o : O) (M' : Mem) : Prop where
  ok : blkC C.N C.sc scope own = true
  nd : C.N.Nodup
  hf : ∀ env x, foldedSetIterable iter env x = pure x
  run : Ev (tLc (UI C tg iter) (UG (C.blk scope) tg) (UP (C.blk scope) ifs) (UE (C.blk scope) elt) (own.map (·.2))) E M o M'
theorem LC.ev {scope : Scope} {own : List (Str × Nat)} {ifs : List Expr} (h : LC C elt tg iter ifs scope own E M o M') : EV C (.ListComp elt [⟨tg, iter, ifs, 0⟩] scope pos) E M o M' :=
  EV.mk (fun X hX => pe_lc hX.calm (by rw [hX.N]; exact h.nd) (ui hX tg iter) (by rw [hX.N, hX.sc]; exact blkOk_by h.ok) (fun s H A cl fp => ug (cx_blk hX s H scope A cl fp) tg) (fun s H A cl fp => up (cx_blk hX s H scope A cl fp) ifs) (fun s H A cl fp => ue (cx_blk hX s H scope A cl fp) elt) (h.hf X.env)) h.run
/-- a name that takes it -/
theorem LC.set (i : Nat) {scope : Scope} {own : List (Str × Nat)} {ifs : List Expr} {y : Str} {py spos : Pos} (h : LC C elt tg iter ifs scope own E M o M') (hi : C.N[i]? = some y := by rfl) (hl : C.sc.names.lookup y = some .local := by rfl)
    (hsw : ∀ env : Env, env.scope = C.sc → swapsWith (.ListComp elt [⟨tg, iter, ifs, 0⟩] scope pos) (some (.Name y py)) spos.line env = pure true) : ST C (.Assign [.Name y py] (.ListComp elt [⟨tg, iter, ifs, 0⟩] scope pos) spos) E M (.nx (E.set i o) M') :=
  ST.mk (fun X hX => ps_setLc hX.calm (by rw [hX.N]; exact h.nd) (by rw [hX.N]; exact hi) (by rw [hX.sc]; exact hl) (hsw X.env hX.sc) (ui hX tg iter) (by rw [hX.N, hX.sc]; exact blkOk_by h.ok) (fun s H A cl fp => ug (cx_blk hX s H scope A cl fp) tg) (fun s H A cl fp => up (cx_blk hX s H scope A cl fp) ifs) (fun s H A cl fp => ue (cx_blk hX s H scope A cl fp) elt) (h.hf X.env))
    fun I H adr σ D s q => h.run I H adr σ _ s fun v I1 H1 adr1 s1 g1 v1 => q I1 H1 adr1 _ (s1.set v1) g1
theorem LC.froz {scope : Scope} {own : List (Str × Nat)} {ifs : List Expr} {n : Nat} {ds : List D} (h : LC C elt tg iter ifs scope own E M (.adr n) (M' ++ [some (ds.map .dat)])) (hfr : ∀ {t : TE}, Ev t E M (.adr n) (M' ++ [some (ds.map .dat)]) → Ev t E M (.dat (.lst ds)) M') : LC C elt tg iter ifs scope own E M (.dat (.lst ds)) M' := ⟨h.ok, h.nd, h.hf, hfr h.run⟩
theorem LC.gen {scope : Scope} {own : List (Str × Nat)} {ifs : List Expr} {n : Nat} {it : Nat → O} {inv : Mem → Prop} {A : Nat → Mem} {acc : Nat → List O} (ok : blkC C.N C.sc scope own = true) (nd : C.N.Nodup) (hs : EI C tg iter E M n it M1 inv)
    (hA : A 0 = M1 ++ [some []]) (ha : acc 0 = []) (hinv : ∀ i, i ≤ n → inv (A i))
    (step : ∀ i, i < n → ∃ Ex Ma b Mb, EGv (C.blk scope) (own.map (·.2)) tg (it i) (wipeE E (own.map (·.2))) (A i) Ex Ma ∧ EP (C.blk scope) ifs Ex Ma b Mb ∧
      ((b = true ∧ ∃ o Mc, EV (C.blk scope) elt Ex Mb o Mc ∧ Mc[M1.length]? = some (some (acc i)) ∧ (acc i).length < 100000 ∧ A (i + 1) = Mc.set M1.length (some (acc i ++ [o])) ∧ acc (i + 1) = acc i ++ [o]) ∨
       (b = false ∧ A (i + 1) = Mb ∧ acc (i + 1) = acc i)))
    (hf : ∀ env x, foldedSetIterable iter env x = pure x := by intro _ _; rfl) : LC C elt tg iter ifs scope own E M (.adr M1.length) (A n) := by
  refine ⟨ok, nd, hf, fun I H adr σ Q s q => ?_⟩
  · refine hs I H adr σ _ s fun J I1 H1 adr1 s1 g1 hr Dl hD => ?_
    obtain ⟨s2, g2, atD⟩ := s1.cel hD (os := []) .nil
    rw [← hA] at s2
    refine ⟨fun i μ H' => i ≤ n ∧ μ = n - i ∧ ∃ I3 adr3, Stt I3 H' adr3 σ E (A i) ∧ Grow I1 (upd H1 Dl (.lst [])) (adr1 ++ [Dl]) I3 H' adr3, ⟨n, Nat.zero_le _, by omega, I1, _, s2, Grow.refl⟩, ?_⟩
    rintro i μ H3 ⟨hi, rfl, I3, adr3, s3, g3⟩
    obtain ⟨st, go⟩ := hr I3 H3 adr3 σ E (A i) s3 (g2.trans g3) (hinv i hi)
    by_cases him : i < n
    · obtain ⟨Ea, Ma, b, Mb, hg, hp, hb⟩ := step i him
      obtain ⟨g0, gy⟩ := go i him
      refine .inr ⟨g0, fun H'' => ∃ I4 adr4, Stt I4 H'' adr4 σ E (A (i + 1)) ∧ Grow I1 (upd H1 Dl (.lst [])) (adr1 ++ [Dl]) I4 H'' adr4, fun H'' hN => ⟨n - (i + 1), by omega, by omega, rfl, hN⟩, fun x H4 hy => ?_⟩
      obtain ⟨I4, s4, g4, v4⟩ := gy x H4 hy
      refine hg I4 H4 adr3 _ x _ (s4.wipe _) v4 fun I5 H5 adr5 σ5 s5 g5 l5 f5 => ⟨?_, ?_⟩
      · rw [wipe_eq l5 f5]
        exact wipe_eq (wipe_length _ _) fun i hi => wipe_get _ _ _ hi
      · refine hp I5 H5 adr5 σ5 _ s5 fun I6 H6 adr6 s6 g6 => ?_
        rcases hb with ⟨rfl, o, Mc, he, hc, hz, hA1, ha1⟩ | ⟨rfl, hA1, ha1⟩
        · rw [if_pos rfl]
          refine he I6 H6 adr6 σ5 _ s6 fun y I7 H7 adr7 s7 g7 y7 => ?_
          have gAll := (((g3.trans g4).trans g5).trans g6).trans g7
          have hD7 : adr7[M1.length]? = some Dl := gAll.get atD
          obtain ⟨_, xs, hx1, hx2⟩ := s7.sto.cell M1.length Dl (acc i) hD7 hc
          have hlen := hx2.length
          refine ⟨xs, hx1, by rw [← hlen]; exact sz_lt hz, ?_⟩
          obtain ⟨s8, g8⟩ := s7.wri hD7 hc (Vs.app hx2 (.cons y7 .nil))
          rw [← hA1] at s8
          exact ⟨I7, adr7, s3.mono ((((g4.trans g5).trans g6).trans g7).trans g8) s8.ex s8.sto, gAll.trans g8⟩
        · rw [if_neg Bool.false_ne_true]
          have gAll := ((g3.trans g4).trans g5).trans g6
          rw [← hA1] at s6
          exact ⟨I6, adr6, s3.mono ((g4.trans g5).trans g6) s6.ex s6.sto, gAll⟩
    · have e : i = n := by omega
      subst e
      exact .inl ⟨st, q _ I3 H3 adr3 s3 ((g1.trans g2).trans g3) ⟨Dl, g3.get atD, rfl⟩⟩

/-- no cell's content leans on newer cells -/
def OkM (M M' : Mem) : Prop := ∀ (k : Nat) (os : List O), M'[k]? = some (some os) → M[k]? = some (some os) ∨ ∃ ds : List D, os = ds.map .dat
theorem OkM.refl : OkM M M := fun _ _ h => .inl h
theorem OkM.nil : OkM M [] := fun _ _ h => by simp at h
theorem OkM.dat {c : Option (List O)} {ds : List D} (h : OkM M M') : OkM (c :: M) (some (ds.map .dat) :: M') := fun k os q => by
  cases k with
  | zero => exact .inr ⟨ds, (Option.some.inj (Option.some.inj q)).symm⟩
  | succ k => exact h k os q
theorem OkM.same {c : Option (List O)} (h : OkM M M') : OkM (c :: M) (c :: M') := fun k os q => by
  cases k with
  | zero => exact .inl q
  | succ k => exact h k os q
theorem low_vs {I : Hp} {adr adr' : List Addr} {n : Nat} (h : ∀ (k : Nat) (a : Addr), adr[k]? = some a → adr'[k]? = some a) : ∀ {os : List O} {xs : List V}, Vs I adr os xs → ∃ vs : List V, True
  | _, _, _ => ⟨[], True.intro⟩
/-- contents that are valid ahead of a growth lean on no newer cell -/
theorem vo_low {I I' : Hp} {adr adr' : List Addr} {v w : V} : ∀ {o : O}, Vo I adr o v → Vo I' adr' o w → (∀ (k : Nat) (a : Addr), adr[k]? = some a → adr'[k]? = some a) → Vo I' adr o w
  | .no, _, _, _ => True.intro
  | .dat _, _, h, _ => h
  | .scr _ _, _, h, _ => h
  | .obj _ fs, h, h', f => by
    obtain ⟨p, dx, gs, h1, h2, h3⟩ := h
    obtain ⟨p', dx', gs', q1, q2, q3⟩ := h'
    refine ⟨p', dx', gs', q1, q2, prImp q3 fun x hx g' z => ⟨z.1, ?_⟩⟩
    obtain ⟨g0, _, a0, e0, _⟩ := prLeft h3 x hx
    obtain ⟨a, e1, e2⟩ := z.2
    have e3 := f _ _ e0
    rw [e1] at e3
    cases e3
    exact ⟨_, e0, e2⟩
  | .adr k, h, h', f => by
    obtain ⟨a, h1, _⟩ := h
    obtain ⟨a', h2, h3⟩ := h'
    rw [f k a h1] at h2
    cases h2
    exact ⟨a, h1, h3⟩
theorem vs_low {I I' : Hp} {adr adr' : List Addr} (f : ∀ (k : Nat) (a : Addr), adr[k]? = some a → adr'[k]? = some a) : ∀ {os : List O} {xs ys : List V}, Vs I adr os xs → Vs I' adr' os ys → Vs I' adr os ys
  | _, _, _, .nil, .nil => .nil
  | _, _, _, .cons h r, .cons h' r' => .cons (vo_low h h' f) (vs_low f r r')
theorem Ev.froz {t : TE} {n : Nat} {ds : List D} (h : Ev t E M (.adr n) (M' ++ [some (ds.map .dat)])) (hn : n = M'.length) (hl : M.length ≤ M'.length) (ok : OkM M M') : Ev t E M (.dat (.lst ds)) M' := fun I H adr σ Q s q => by
  refine h I H adr σ Q s fun v I1 H1 adr1 s1 g1 v1 => ?_
  obtain ⟨p, hp, rfl⟩ := v1
  obtain ⟨nw, rfl, fr⟩ := g1.new
  have hlen := s1.sto.len
  rw [List.length_append, List.length_append, List.length_singleton] at hlen
  have hl0 := s.sto.len
  have hcell : (M' ++ [some (ds.map O.dat)])[n]? = some (some (ds.map .dat)) := by
    rw [hn, List.getElem?_append_right (Nat.le_refl _), Nat.sub_self]
    rfl
  obtain ⟨hi, xs, hx1, hx2⟩ := s1.sto.cell n p _ hp hcell
  have hne : nw ≠ [] := fun z => by
    subst z
    simp at hlen
    omega
  -- the last address is p
  have hnw : nw = nw.dropLast ++ [p] := by
    have e1 : (adr ++ nw)[n]? = nw[nw.length - 1]? := by
      rw [List.getElem?_append_right (by omega)]
      congr 1
      omega
    rw [hp] at e1
    have e2 : nw.getLast hne = p := by
      rw [List.getLast_eq_getElem]
      have := (List.getElem?_eq_some_iff.mp e1.symm).2
      exact this
    rw [← e2]
    exact (List.dropLast_concat_getLast hne).symm
  have hdl : (adr ++ nw) = (adr ++ nw.dropLast) ++ [p] := by
    rw [List.append_assoc, ← hnw]
  have hlen2 : (adr ++ nw.dropLast).length = M'.length := by
    rw [List.length_append, List.length_dropLast]
    have : nw.length ≠ 0 := fun z => hne (List.eq_nil_of_length_eq_zero z)
    omega
  have sub : ∀ (k : Nat) (a : Addr), (adr ++ nw.dropLast)[k]? = some a → (adr ++ nw)[k]? = some a := fun k a hk => by
    rw [hdl, List.getElem?_append_left (List.getElem?_eq_some_iff.mp hk).1]
    exact hk
  have sub0 : ∀ (k : Nat) (a : Addr), adr[k]? = some a → (adr ++ nw)[k]? = some a := fun k a hk => by
    rw [List.getElem?_append_left (List.getElem?_eq_some_iff.mp hk).1]
    exact hk
  have ndp : p ∉ adr ++ nw.dropLast := by
    have nd1 := s1.sto.nd
    rw [hdl, List.nodup_append] at nd1
    intro z
    exact nd1.2.2 p z p (by simp) rfl
  have pin : p ∈ nw := by
    rw [hnw]
    simp
  have ex1 : Ex I1 (upd I1 p (.lst xs)) := Ex.new hi
  have ex2 : Ex (upd I1 p (.lst xs)) H1 := fun a u z => by
    by_cases e : a = p
    · subst e
      rw [upd_same] at z
      cases z
      exact hx1
    · rw [upd_ne e] at z
      exact s1.ex a u z
  have g2 : Grow I H adr (upd I1 p (.lst xs)) H1 (adr ++ nw.dropLast) := by
    refine ⟨g1.ex.trans ex1, ⟨nw.dropLast, rfl, fun a ha => fr a ((List.dropLast_sublist nw).subset ha)⟩, g1.keep, g1.dom, fun a u h1 n h2 h3 => ?_, g1.code⟩
    have : a ≠ p := fun z => by
      rw [z] at h1
      exact fr p pin u h1 n
    rw [upd_ne this]
    exact g1.out a u h1 n h2 h3
  have sto2 : Sto (upd I1 p (.lst xs)) H1 (adr ++ nw.dropLast) M' := by
    refine ⟨hlen2, ?_, fun k a os h1 h2 => ?_, fun k a h1 => s1.sto.dom k a (sub k a h1), s1.sto.amb.same fun b u h => ?_⟩
    · have nd1 := s1.sto.nd
      rw [hdl, List.nodup_append] at nd1
      exact nd1.1
    · have hk : k < M'.length := (List.getElem?_eq_some_iff.mp h2).1
      have h3 : (M' ++ [some (ds.map O.dat)])[k]? = some (some os) := by
        rw [List.getElem?_append_left hk]
        exact h2
      obtain ⟨c1, ys, c2, c3⟩ := s1.sto.cell k a os (sub k a h1) h3
      have na : a ≠ p := fun z => ndp (by rw [← z]; exact List.mem_of_getElem? h1)
      refine ⟨by rw [upd_ne na]; exact c1, ys, c2, Vs.ext ex1 ?_⟩
      rcases ok k os h2 with hm | ⟨es, rfl⟩
      · have hk2 : k < adr.length := by
          rw [hl0]
          exact (List.getElem?_eq_some_iff.mp hm).1
        obtain ⟨_, zs, _, z3⟩ := s.sto.cell k adr[k] os (List.getElem?_eq_getElem hk2) hm
        exact (vs_low sub0 z3 c3).more
      · exact Vs.reps c3.to
    · by_cases e : b = p
      · subst e
        rw [upd_same] at h
        cases h
        exact NT.lst
      · rw [upd_ne e] at h
        exact s1.sto.amb.nt b u h
  exact q _ _ H1 _ (s.mono g2 ex2 sto2) g2 (.lst upd_same (hx2.to.mono ex1))
end
end Ab
/-! Ab: the forms one uses. -/
namespace Ab
open PySem PySem.Spec PyProof.Rows L2
variable [TabCtx]
section
variable {C : Cc} {E E1 E2 E' : List O} {M M1 M2 M3 M' : Mem} {o o1 o2 o3 : O} {os : List O} {e a b c tg iter elt : Expr} {es : List Expr} {pos pos' p apos : Pos} {d d1 d2 : D} {i j : Int} {k k' : Bool} {r : Out} {body : List Stmt} {vs : List Nat} {scope : Scope} {own : List (Str × Nat)} {ifs : List Expr} {x : Str}

/-! ### comprehensions -/
theorem getE_append {α : Type} {l : List α} {x : α} : (l ++ [x])[l.length]? = some x := by
  rw [List.getElem?_append_right (Nat.le_refl _), Nat.sub_self]
  rfl
theorem set_append {α : Type} {l : List α} {x y : α} : (l ++ [x]).set l.length y = l ++ [y] := by
  rw [List.set_append_right _ _ (Nat.le_refl _), Nat.sub_self]
  rfl
/-- pure elements, the list a cell -/
theorem LC.lPC {n : Nat} {it : Nat → O} {inv : Mem → Prop} {v : Nat → D} {f : Nat → Bool} (ok : blkC C.N C.sc scope own = true) (nd : C.N.Nodup) (hs : EI C tg iter E M n it M1 inv) (hinv : ∀ c, inv (M1 ++ [c])) (hn : n < 100000)
    (step : ∀ i, i < n → ∃ Ex, (∀ M, EGv (C.blk scope) (own.map (·.2)) tg (it i) (wipeE E (own.map (·.2))) M Ex M) ∧ (∀ M, EP (C.blk scope) ifs Ex M (f i) M) ∧ (f i = true → ∀ M, EV (C.blk scope) elt Ex M (.dat (v i)) M))
    (hf : ∀ env x, foldedSetIterable iter env x = pure x := by intro _ _; rfl) : LC C elt tg iter ifs scope own E M (.adr M1.length) (M1 ++ [some ((((List.range n).filter f).map v).map .dat)]) := by
  refine LC.gen (A := fun i => M1 ++ [some ((((List.range i).filter f).map v).map .dat)]) (acc := fun i => (((List.range i).filter f).map v).map .dat) ok nd hs rfl rfl (fun i _ => hinv _) (fun i hi => ?_) hf
  obtain ⟨Ex, h1, h2, h3⟩ := step i hi
  refine ⟨Ex, _, f i, _, h1 _, h2 _, ?_⟩
  cases hb : f i with
  | true =>
    refine .inl ⟨rfl, .dat (v i), _, h3 hb _, getE_append, ?_, ?_, ?_⟩
    · rw [List.length_map, List.length_map]
      have := List.length_filter_le f (List.range i)
      rw [List.length_range] at this
      omega
    · show M1 ++ [some ((((List.range (i + 1)).filter f).map v).map O.dat)] = _
      rw [set_append, List.range_succ, List.filter_append, List.map_append, List.map_append, List.filter_cons, if_pos hb]
      rfl
    · show (((List.range (i + 1)).filter f).map v).map O.dat = _
      rw [List.range_succ, List.filter_append, List.map_append, List.map_append, List.filter_cons, if_pos hb]
      rfl
  | false =>
    have e : (((List.range (i + 1)).filter f).map v).map O.dat = (((List.range i).filter f).map v).map O.dat := by
      rw [List.range_succ, List.filter_append, List.map_append, List.map_append, List.filter_cons, if_neg (by rw [hb]; decide)]
      exact List.append_nil _
    refine .inr ⟨rfl, ?_, ?_⟩
    · show M1 ++ [some ((((List.range (i + 1)).filter f).map v).map O.dat)] = _
      rw [e]
    · exact e
theorem LC.lPF {n : Nat} {it : Nat → O} {inv : Mem → Prop} {v : Nat → D} {f : Nat → Bool} (ok : blkC C.N C.sc scope own = true) (nd : C.N.Nodup) (hs : EI C tg iter E M n it M1 inv) (hinv : ∀ c, inv (M1 ++ [c])) (hn : n < 100000) (hl : M.length ≤ M1.length) (hok : OkM M M1)
    (step : ∀ i, i < n → ∃ Ex, (∀ M, EGv (C.blk scope) (own.map (·.2)) tg (it i) (wipeE E (own.map (·.2))) M Ex M) ∧ (∀ M, EP (C.blk scope) ifs Ex M (f i) M) ∧ (f i = true → ∀ M, EV (C.blk scope) elt Ex M (.dat (v i)) M))
    (hf : ∀ env x, foldedSetIterable iter env x = pure x := by intro _ _; rfl) : LC C elt tg iter ifs scope own E M (.dat (.lst (((List.range n).filter f).map v))) M1 :=
  LC.froz (LC.lPC ok nd hs hinv hn step hf) fun h => Ev.froz h rfl hl hok
/-- elements that turn cells -/
theorem LC.lSC {n : Nat} {it : Nat → O} {inv : Mem → Prop} {v : Nat → D} {M_ : Nat → Mem} (ok : blkC C.N C.sc scope own = true) (nd : C.N.Nodup) (hs : EI C tg iter E M n it M1 inv) (h0 : M_ 0 = M1) (hlen : ∀ i, i ≤ n → (M_ i).length = M1.length) (hinv : ∀ i, i ≤ n → ∀ c, inv (M_ i ++ [c])) (hn : n < 100000)
    (step : ∀ i, i < n → ∃ Ex, (∀ M, EGv (C.blk scope) (own.map (·.2)) tg (it i) (wipeE E (own.map (·.2))) M Ex M) ∧ ∀ c, EV (C.blk scope) elt Ex (M_ i ++ [c]) (.dat (v i)) (M_ (i + 1) ++ [c]))
    (hf : ∀ env x, foldedSetIterable iter env x = pure x := by intro _ _; rfl) : LC C elt tg iter [] scope own E M (.adr M1.length) (M_ n ++ [some (((List.range n).map v).map .dat)]) := by
  refine LC.gen (A := fun i => M_ i ++ [some (((List.range i).map v).map .dat)]) (acc := fun i => ((List.range i).map v).map .dat) ok nd hs (by rw [h0]; rfl) rfl (fun i hi => hinv i hi _) (fun i hi => ?_) hf
  obtain ⟨Ex, h1, h3⟩ := step i hi
  refine ⟨Ex, _, true, _, h1 _, EP.nil, .inl ⟨rfl, .dat (v i), _, h3 _, ?_, ?_, ?_, ?_⟩⟩
  · rw [← hlen (i + 1) hi]
    exact getE_append
  · rw [List.length_map, List.length_map, List.length_range]
    omega
  · show M_ (i + 1) ++ [some (((List.range (i + 1)).map v).map O.dat)] = _
    rw [← hlen (i + 1) hi, set_append, List.range_succ, List.map_append, List.map_append]
    rfl
  · show ((List.range (i + 1)).map v).map O.dat = _
    rw [List.range_succ, List.map_append, List.map_append]
    rfl
theorem LC.lS {n : Nat} {it : Nat → O} {inv : Mem → Prop} {v : Nat → D} {M_ : Nat → Mem} (ok : blkC C.N C.sc scope own = true) (nd : C.N.Nodup) (hs : EI C tg iter E M n it M1 inv) (h0 : M_ 0 = M1) (hlen : ∀ i, i ≤ n → (M_ i).length = M1.length) (hinv : ∀ i, i ≤ n → ∀ c, inv (M_ i ++ [c])) (hn : n < 100000) (hl : M.length ≤ M1.length) (hok : OkM M (M_ n))
    (step : ∀ i, i < n → ∃ Ex, (∀ M, EGv (C.blk scope) (own.map (·.2)) tg (it i) (wipeE E (own.map (·.2))) M Ex M) ∧ ∀ c, EV (C.blk scope) elt Ex (M_ i ++ [c]) (.dat (v i)) (M_ (i + 1) ++ [c]))
    (hf : ∀ env x, foldedSetIterable iter env x = pure x := by intro _ _; rfl) : LC C elt tg iter [] scope own E M (.dat (.lst ((List.range n).map v))) (M_ n) :=
  LC.froz (LC.lSC ok nd hs h0 hlen hinv hn step hf) fun h => Ev.froz h (hlen n (Nat.le_refl n)).symm (by rw [hlen n (Nat.le_refl n)]; exact hl) hok
theorem range_getD {α : Type} (d0 : α) : ∀ (xs : List α), (List.range xs.length).map (fun i => xs.getD i d0) = xs := fun xs => by
  refine List.ext_getElem? fun i => ?_
  rw [List.getElem?_map]
  by_cases hi : i < xs.length
  · rw [List.getElem?_range hi, List.getElem?_eq_getElem hi]
    show some (xs.getD i d0) = _
    rw [List.getD_eq_getElem?_getD, List.getElem?_eq_getElem hi]
    rfl
  · rw [List.getElem?_eq_none (by rw [List.length_range]; exact Nat.le_of_not_lt hi), List.getElem?_eq_none (Nat.le_of_not_lt hi)]
    rfl
theorem atO_map {α : Type} {f : α → D} {xs : List α} {i : Nat} (h : i < xs.length) : atO (xs.map f) i = .dat (f xs[i]) := by
  unfold atO
  rw [List.getD_eq_getElem?_getD, List.getElem?_map, List.getElem?_eq_getElem h]
  rfl
/-- [elt for x in xs], xs a list or tuple of the f of some α -/
theorem LC.lM {α : Type} (jx : Nat) {xs : List α} {f g : α → D} (ok : blkC C.N C.sc scope own = true) (nd : C.N.Nodup) (ho : own.map (·.2) = [jx]) (h : EV C iter E M (.dat d) M1) (hd : seqD d = some (xs.map f)) (hl : M.length ≤ M1.length) (hok : OkM M M1) (hz : xs.length < 100000)
    (step : ∀ y ∈ xs, ∀ M, EV (C.blk scope) elt ((wipeE E [jx]).set jx (.dat (f y))) M (.dat (g y)) M) (hi : C.N[jx]? = some x := by rfl) (hx : Loc (C.blk scope).sc x := by first | exact Or.inl rfl | exact Or.inr rfl) (hf' : (C.blk scope).fn x = true ∨ (C.blk scope).sc.names.lookup x = some .local := by first | exact .inl rfl | exact .inr rfl)
    (hf : ∀ env x, foldedSetIterable iter env x = pure x := by intro _ _; rfl) : LC C elt (.Name x p) iter [] scope own E M (.dat (.lst (xs.map g))) M1 := by
  have hlen : (xs.map f).length = xs.length := List.length_map _
  have key := LC.lPF (tg := .Name x p) (elt := elt) (ifs := []) (scope := scope) (own := own) (n := (xs.map f).length) (v := fun i => (xs.map g).getD i .non) (f := fun _ => true) ok nd (EI.seq h hd) (fun _ => True.intro) (by omega) hl hok (fun i hi' => by
    rw [hlen] at hi'
    refine ⟨_, fun M => EGv.nm jx nd (by rw [ho]; simp) hi hx hf', fun M => EP.nil, fun _ M => ?_⟩
    rw [ho, atO_map hi']
    have e : (xs.map g).getD i .non = g xs[i] := by
      rw [List.getD_eq_getElem?_getD, List.getElem?_map, List.getElem?_eq_getElem hi']
      rfl
    rw [e]
    exact step _ (List.getElem_mem hi') M) hf
  have e2 : ((List.range (xs.map f).length).filter fun _ => true).map (fun i => (xs.map g).getD i D.non) = xs.map g := by
    rw [List.filter_eq_self.mpr (fun _ _ => rfl), hlen, ← List.length_map g]
    exact range_getD _ _
  rw [e2] at key
  exact key
theorem filt_getD {α β : Type} (d0 : β) (t : α → Bool) (g : α → β) : ∀ xs : List α, ((List.range xs.length).filter fun i => (xs.map t).getD i false).map (fun i => (xs.map g).getD i d0) = (xs.filter t).map g
  | [] => rfl
  | y :: r => by
    have ih := filt_getD d0 t g r
    have e3 : ((fun i => ((y :: r).map t).getD i false) ∘ Nat.succ) = fun i => (r.map t).getD i false := by
      funext i
      simp [List.getD_eq_getElem?_getD]
    have e4 : ((fun i => ((y :: r).map g).getD i d0) ∘ Nat.succ) = fun i => (r.map g).getD i d0 := by
      funext i
      simp [List.getD_eq_getElem?_getD]
    rw [List.length_cons, List.range_succ_eq_map, List.filter_cons, List.filter_map, e3]
    have e5 : ((y :: r).map t).getD 0 false = t y := by simp [List.getD_eq_getElem?_getD]
    have e6 : ((y :: r).map g).getD 0 d0 = g y := by simp [List.getD_eq_getElem?_getD]
    rw [e5, List.filter_cons]
    by_cases hy : t y = true
    · rw [if_pos hy, if_pos hy]
      simp only [List.map_cons, List.map_map]
      rw [show (fun i => (List.map g (y :: r)).getD i d0) = fun i => (List.map g (y :: r)).getD i d0 from rfl] at *
      rw [← List.map_cons (f := g), e6, e4, ih]
    · rw [if_neg hy, if_neg hy, List.map_map, e4, ih]
/-- .. with a test -/
theorem LC.lMF {α : Type} (jx : Nat) {xs : List α} {f g : α → D} {t : α → Bool} (ok : blkC C.N C.sc scope own = true) (nd : C.N.Nodup) (ho : own.map (·.2) = [jx]) (h : EV C iter E M (.dat d) M1) (hd : seqD d = some (xs.map f)) (hl : M.length ≤ M1.length) (hok : OkM M M1) (hz : xs.length < 100000)
    (ht : ∀ y ∈ xs, ∀ M, ET (C.blk scope) c ((wipeE E [jx]).set jx (.dat (f y))) M (t y) M)
    (step : ∀ y ∈ xs, t y = true → ∀ M, EV (C.blk scope) elt ((wipeE E [jx]).set jx (.dat (f y))) M (.dat (g y)) M) (hi : C.N[jx]? = some x := by rfl) (hx : Loc (C.blk scope).sc x := by first | exact Or.inl rfl | exact Or.inr rfl) (hf' : (C.blk scope).fn x = true ∨ (C.blk scope).sc.names.lookup x = some .local := by first | exact .inl rfl | exact .inr rfl)
    (hf : ∀ env x, foldedSetIterable iter env x = pure x := by intro _ _; rfl) : LC C elt (.Name x p) iter [c] scope own E M (.dat (.lst ((xs.filter t).map g))) M1 := by
  have hlen : (xs.map f).length = xs.length := List.length_map _
  have key := LC.lPF (tg := .Name x p) (elt := elt) (ifs := [c]) (scope := scope) (own := own) (n := (xs.map f).length) (v := fun i => (xs.map g).getD i .non) (f := fun i => (xs.map t).getD i false) ok nd (EI.seq h hd) (fun _ => True.intro) (by omega) hl hok (fun i hi' => by
    rw [hlen] at hi'
    have e0 : (xs.map t).getD i false = t xs[i] := by
      rw [List.getD_eq_getElem?_getD, List.getElem?_map, List.getElem?_eq_getElem hi']
      rfl
    refine ⟨_, fun M => EGv.nm jx nd (by rw [ho]; simp) hi hx hf', fun M => ?_, fun hb M => ?_⟩
    · rw [ho, atO_map hi', e0]
      exact EP.one (ht _ (List.getElem_mem hi') M)
    · rw [ho, atO_map hi']
      have e : (xs.map g).getD i .non = g xs[i] := by
        rw [List.getD_eq_getElem?_getD, List.getElem?_map, List.getElem?_eq_getElem hi']
        rfl
      rw [e]
      rw [e0] at hb
      exact step _ (List.getElem_mem hi') hb M) hf
  have e2 : ((List.range (xs.map f).length).filter fun i => (xs.map t).getD i false).map (fun i => (xs.map g).getD i D.non) = (xs.filter t).map g := by
    rw [hlen]
    exact filt_getD _ _ _ _
  rw [e2] at key
  exact key
theorem atI0_eq {n : Nat} : atI0 0 n = .dat (.int (n : Int)) := by
  unfold atI0
  rw [Int.zero_add]
/-- [elt for x in range(j)] -/
theorem LC.lR (jx : Nat) {y : Str} {q : Pos} {qs : Pos} {g : Nat → D} (ok : blkC C.N C.sc scope own = true) (nd : C.N.Nodup) (ho : own.map (·.2) = [jx]) (h : EV C a E M (.dat (.int j)) M1) (hm : Bt C.g "range") (hl : M.length ≤ M1.length) (hok : OkM M M1) (hz : j < 100000 ∧ -100000 < j)
    (step : ∀ i, i < j.toNat → ∀ M, EV (C.blk scope) elt ((wipeE E [jx]).set jx (.dat (.int (i : Int)))) M (.dat (g i)) M) (hy : y = "range" := by rfl) (hg : C.sc.names.lookup y = some .globalImplicit := by rfl) (hs : ∀ env, starEach [a] env = [(false, eval a env)] := by intro _; rfl)
    (hi : C.N[jx]? = some x := by rfl) (hx : Loc (C.blk scope).sc x := by first | exact Or.inl rfl | exact Or.inr rfl) (hf' : (C.blk scope).fn x = true ∨ (C.blk scope).sc.names.lookup x = some .local := by first | exact .inl rfl | exact .inr rfl)
    (hf : ∀ env x, foldedSetIterable (.Call (.Name y q) [a] [] qs) env x = pure x := by intro _ _; rfl) : LC C elt (.Name x p) (.Call (.Name y q) [a] [] qs) [] scope own E M (.dat (.lst ((List.range j.toNat).map g))) M1 := by
  have key := LC.lPF (tg := .Name x p) (elt := elt) (ifs := []) (scope := scope) (own := own) (n := j.toNat) (v := g) (f := fun _ => true) ok nd (EI.rng1 (x := y) (p := q) (pos := qs) h hm (by omega) hy hg hs) (fun _ => True.intro) (by omega) hl hok (fun i hi' => by
    refine ⟨_, fun M => EGv.nm jx nd (by rw [ho]; simp) hi hx hf', fun M => EP.nil, fun _ M => ?_⟩
    rw [ho, atI0_eq]
    exact step i hi' M) hf
  rw [List.filter_eq_self.mpr (fun _ _ => rfl)] at key
  exact key
/-- [elt for x in range(j)], each element turns cells; the list a datum -/
theorem LC.lRS (jx : Nat) {y : Str} {q : Pos} {qs : Pos} {v : Nat → D} {M_ : Nat → Mem} (ok : blkC C.N C.sc scope own = true) (nd : C.N.Nodup) (ho : own.map (·.2) = [jx]) (h : EV C a E M (.dat (.int j)) M1) (hm : Bt C.g "range") (h0 : M_ 0 = M1) (hlen : ∀ i, i ≤ j.toNat → (M_ i).length = M1.length) (hl : M.length ≤ M1.length) (hok : OkM M (M_ j.toNat)) (hz : j < 100000 ∧ -100000 < j)
    (step : ∀ i, i < j.toNat → ∀ c, EV (C.blk scope) elt ((wipeE E [jx]).set jx (.dat (.int (i : Int)))) (M_ i ++ [c]) (.dat (v i)) (M_ (i + 1) ++ [c])) (hy : y = "range" := by rfl) (hg : C.sc.names.lookup y = some .globalImplicit := by rfl) (hs : ∀ env, starEach [a] env = [(false, eval a env)] := by intro _; rfl)
    (hi : C.N[jx]? = some x := by rfl) (hx : Loc (C.blk scope).sc x := by first | exact Or.inl rfl | exact Or.inr rfl) (hf' : (C.blk scope).fn x = true ∨ (C.blk scope).sc.names.lookup x = some .local := by first | exact .inl rfl | exact .inr rfl)
    (hf : ∀ env x, foldedSetIterable (.Call (.Name y q) [a] [] qs) env x = pure x := by intro _ _; rfl) : LC C elt (.Name x p) (.Call (.Name y q) [a] [] qs) [] scope own E M (.dat (.lst ((List.range j.toNat).map v))) (M_ j.toNat) :=
  LC.lS ok nd (EI.rng1 (x := y) (p := q) (pos := qs) h hm (by omega) hy hg hs) h0 hlen (fun _ _ _ => True.intro) (by omega) hl hok (fun i hi' => ⟨_, fun M => EGv.nm jx nd (by rw [ho]; simp) hi hx hf', fun c => by
    rw [ho, atI0_eq]
    exact step i hi' c⟩) hf
/-- .. a cell -/
theorem LC.lRSC (jx : Nat) {y : Str} {q : Pos} {qs : Pos} {v : Nat → D} {M_ : Nat → Mem} (ok : blkC C.N C.sc scope own = true) (nd : C.N.Nodup) (ho : own.map (·.2) = [jx]) (h : EV C a E M (.dat (.int j)) M1) (hm : Bt C.g "range") (h0 : M_ 0 = M1) (hlen : ∀ i, i ≤ j.toNat → (M_ i).length = M1.length) (hz : j < 100000 ∧ -100000 < j)
    (step : ∀ i, i < j.toNat → ∀ c, EV (C.blk scope) elt ((wipeE E [jx]).set jx (.dat (.int (i : Int)))) (M_ i ++ [c]) (.dat (v i)) (M_ (i + 1) ++ [c])) (hy : y = "range" := by rfl) (hg : C.sc.names.lookup y = some .globalImplicit := by rfl) (hs : ∀ env, starEach [a] env = [(false, eval a env)] := by intro _; rfl)
    (hi : C.N[jx]? = some x := by rfl) (hx : Loc (C.blk scope).sc x := by first | exact Or.inl rfl | exact Or.inr rfl) (hf' : (C.blk scope).fn x = true ∨ (C.blk scope).sc.names.lookup x = some .local := by first | exact .inl rfl | exact .inr rfl)
    (hf : ∀ env x, foldedSetIterable (.Call (.Name y q) [a] [] qs) env x = pure x := by intro _ _; rfl) : LC C elt (.Name x p) (.Call (.Name y q) [a] [] qs) [] scope own E M (.adr M1.length) (M_ j.toNat ++ [some (((List.range j.toNat).map v).map .dat)]) :=
  LC.lSC ok nd (EI.rng1 (x := y) (p := q) (pos := qs) h hm (by omega) hy hg hs) h0 hlen (fun _ _ _ => True.intro) (by omega) (fun i hi' => ⟨_, fun M => EGv.nm jx nd (by rw [ho]; simp) hi hx hf', fun c => by
    rw [ho, atI0_eq]
    exact step i hi' c⟩) hf
/-- [elt for x, y in zip(xs, ys)] -/
theorem LC.lZ {α β : Type} (jx jy : Nat) {y z : Str} {q qs q1 q2 : Pos} {kk : Nat} {xs : List α} {ys : List β} {f1 : α → D} {f2 : β → D} {g : α → β → D} (ok : blkC C.N C.sc scope own = true) (nd : C.N.Nodup) (ho : own.map (·.2) = [jx, jy])
    (h1 : EV C a E M (.dat d1) M1) (h2 : EV C b E M1 (.dat d2) M2) (hd : (d1 = .tup (xs.map f1) ∧ d2 = .tup (ys.map f2)) ∨ (d1 = .lst (xs.map f1) ∧ d2 = .lst (ys.map f2))) (hm : Bt C.g "zip") (hl : M.length ≤ M2.length) (hok : OkM M M2) (hz : xs.length < 100000)
    (step : ∀ u ∈ xs, ∀ v ∈ ys, ∀ M, EV (C.blk scope) elt (((wipeE E [jx, jy]).set jx (.dat (f1 u))).set jy (.dat (f2 v))) M (.dat (g u v)) M)
    (hy : z = "zip" := by rfl) (hg : C.sc.names.lookup z = some .globalImplicit := by rfl) (hs : ∀ env, starEach [a, b] env = (false, eval a env) :: starEach [b] env := by intro _; rfl) (hs2 : ∀ env, starEach [b] env = (false, eval b env) :: starEach [] env := by intro _; rfl) (hpl : ∀ env, (backTo qs (starEach [b] env)).any (·.1) = false := by intro _; rfl)
    (hi : C.N[jx]? = some x := by rfl) (hi' : C.N[jy]? = some y := by rfl) (hx : Loc (C.blk scope).sc x := by first | exact Or.inl rfl | exact Or.inr rfl) (hx' : Loc (C.blk scope).sc y := by first | exact Or.inl rfl | exact Or.inr rfl)
    (hf' : (C.blk scope).fn x = true ∨ (C.blk scope).sc.names.lookup x = some .local := by first | exact .inl rfl | exact .inr rfl) (hf'' : (C.blk scope).fn y = true ∨ (C.blk scope).sc.names.lookup y = some .local := by first | exact .inl rfl | exact .inr rfl)
    (hf : ∀ env x, foldedSetIterable (.Call (.Name z q) [a, b] [] qs) env x = pure x := by intro _ _; rfl) : LC C elt (.Tuple [.Name x q1, .Name y q2] kk p) (.Call (.Name z q) [a, b] [] qs) [] scope own E M (.dat (.lst ((xs.zip ys).map fun u => g u.1 u.2))) M2 := by
  have hlen : min (xs.map f1).length (ys.map f2).length = (xs.zip ys).length := by rw [List.length_map, List.length_map, List.length_zip]
  have hle : (xs.zip ys).length ≤ xs.length := by rw [List.length_zip]; omega
  have key := LC.lPF (tg := .Tuple [.Name x q1, .Name y q2] kk p) (elt := elt) (ifs := []) (scope := scope) (own := own) (v := fun i => ((xs.zip ys).map fun u => g u.1 u.2).getD i .non) (f := fun _ => true) ok nd (EI.zip (p := q) (pos := qs) (elts := [.Name x q1, .Name y q2]) (kk := kk) (tp := p) h1 h2 hd hm hy hg hs hs2 hpl) (fun _ => True.intro) (by omega) hl hok (fun i hlt => by
    rw [hlen] at hlt
    have l1 : i < xs.length := by rw [List.length_zip] at hlt; omega
    have l2 : i < ys.length := by rw [List.length_zip] at hlt; omega
    refine ⟨((wipeE E (own.map (·.2))).set jx (.dat (f1 xs[i]))).set jy (.dat (f2 ys[i])), fun M => ?_, fun M => EP.nil, fun _ M => ?_⟩
    · have ez : atZ (xs.map f1) (ys.map f2) i = .dat (.tup [f1 xs[i], f2 ys[i]]) := by
        unfold atZ
        rw [List.getD_eq_getElem?_getD, List.getD_eq_getElem?_getD, List.getElem?_map, List.getElem?_map, List.getElem?_eq_getElem l1, List.getElem?_eq_getElem l2]
        rfl
      rw [ez]
      exact EGv.tup (EGvs.cons (EGv.nm jx nd (by rw [ho]; simp) hi hx hf') (EGvs.cons (EGv.nm jy nd (by rw [ho]; simp) hi' hx' hf'') EGvs.nil))
    · have e : ((xs.zip ys).map fun u => g u.1 u.2).getD i .non = g xs[i] ys[i] := by
        rw [List.getD_eq_getElem?_getD, List.getElem?_map, List.getElem?_eq_getElem hlt, List.getElem_zip]
        rfl
      rw [e, ho]
      exact step _ (List.getElem_mem l1) _ (List.getElem_mem l2) M) hf
  have e2 : ((List.range (min (xs.map f1).length (ys.map f2).length)).filter fun _ => true).map (fun i => ((xs.zip ys).map fun u => g u.1 u.2).getD i D.non) = (xs.zip ys).map fun u => g u.1 u.2 := by
    rw [List.filter_eq_self.mpr (fun _ _ => rfl), hlen, ← List.length_map (fun u : α × β => g u.1 u.2)]
    exact range_getD _ _
  rw [e2] at key
  exact key

/-! ### methods of cells -/
theorem EV.append {n : Nat} {ps ps1 : List O} (ho : EV C a E M (.adr n) M1) (hv : EV C b E M1 o M2) (hm1 : M1[n]? = some (some ps1)) (hm : M2[n]? = some (some ps)) (hz : ps.length < 100000)
    (hbase : ∀ env, attributeBase a "append" env (eval a env) = eval a env := by intro _; rfl)
    (hfew : ∀ env, ((backTo pos (starEach [b] env)).all (fun x => !x.1) && (backToKw pos (keywordEach [] env)).all (fun x => x.1.isSome) && decide ([b].length + ([] : List Keyword).length + (if ([] : List Keyword).isEmpty then 0 else 1) < 30)) = true := by intro _; rfl)
    (hline : (apos.endLine == pos.line) = true := by rfl) (hs : ∀ env, starEach [b] env = (false, eval b env) :: starEach [] env := by intro _; rfl) : EV C (.Call (.Attribute a "append" apos) [b] [] pos) E M (.dat .non) (M2.set n (some (ps ++ [o]))) :=
  EV.mk (t := tBM C.g.K "list" rAppend (UE C a) (tCons (UE C b) tNil)) (fun X hX => by
    have := pe_bm (apos := apos) (cpos := pos) PySem.F.plainAttrs_list PySem.F.slot_list_append PySem.F.type_list_append mt_append (ue hX a) (pa_cons (ue hX b) pa_nil (hs X.env)) (hbase X.env) (hfew X.env) hline (hs X.env) rfl
    rw [hX.K] at this
    exact this) fun I H adr σ Q s q => ho I H adr σ _ s fun v I1 H1 adr1 s1 g1 v1 => by
      obtain ⟨p, hp, rfl⟩ := v1
      obtain ⟨_, xs1, hx1, _⟩ := s1.sto.cell n p ps1 hp hm1
      refine ⟨.inl ⟨rfl, xs1, sql_uniq hx1⟩, hv I1 H1 adr1 σ _ s1 fun w I2 H2 adr2 s2 g2 w2 => ?_⟩
      obtain ⟨_, xs, hx, hr⟩ := s2.sto.cell n p ps (g2.get hp) hm
      obtain ⟨s3, g3⟩ := s2.wri (g2.get hp) hm (Vs.app hr (.cons w2 .nil))
      exact ⟨p, xs, w, rfl, rfl, hx, by rw [← hr.length]; exact sz_lt hz, q _ I2 _ adr2 s3 ((g1.trans g2).trans g3) .non⟩
theorem EV.pop {n : Nat} {ps : List O} (ho : EV C a E M (.adr n) M1) (hm : M1[n]? = some (some ps)) (hl : ps[ps.length - 1]? = some o)
    (hbase : ∀ env, attributeBase a "pop" env (eval a env) = eval a env := by intro _; rfl) (hline : (apos.endLine == pos.line) = true := by rfl) : EV C (.Call (.Attribute a "pop" apos) [] [] pos) E M o (M1.set n (some ps.dropLast)) :=
  EV.mk (t := tBM0 C.g.K "list" rPop (UE C a)) (fun X hX => by
    have := pe_bm0 (apos := apos) (cpos := pos) PySem.F.plainAttrs_list PySem.F.slot_list_pop PySem.F.type_list_pop mt_pop (ue hX a) (hbase X.env) hline
    rw [hX.K] at this
    exact this) fun I H adr σ Q s q => ho I H adr σ _ s fun v I1 H1 adr1 s1 g1 v1 => by
      obtain ⟨p, hp, rfl⟩ := v1
      obtain ⟨_, xs, hx, hr⟩ := s1.sto.cell n p ps hp hm
      obtain ⟨y, hy, vy⟩ := hr.get hl
      obtain ⟨s3, g3⟩ := s1.wri hp hm (Vs.dropLast hr)
      exact ⟨.inl ⟨rfl, xs, sql_uniq hx⟩, p, xs, y, rfl, rfl, hx, by rw [← hr.length]; exact hy, q _ I1 _ adr1 s3 (g1.trans g3) (Vo.mono g3 vy)⟩

/-! ### is, on bools -/
theorem CS.isB : CS C .Is (.dat (.bl k)) (.dat (.bl k')) M (.dat (.bl (decide (k = k')))) M := ⟨_, fun X _ => op_is_bl, fun I H adr σ E v w Q s hv hw q => by
  cases rep_bl hv
  cases rep_bl hw
  exact ⟨k, k', rfl, rfl, q _ I H adr s Grow.refl (.bl _)⟩⟩
theorem CS.isnotB : CS C .IsNot (.dat (.bl k)) (.dat (.bl k')) M (.dat (.bl (!decide (k = k')))) M := ⟨_, fun X _ => op_isnot_bl, fun I H adr σ E v w Q s hv hw q => by
  cases rep_bl hv
  cases rep_bl hw
  exact ⟨k, k', rfl, rfl, q _ I H adr s Grow.refl (.bl _)⟩⟩

/-! ### calls of defs -/
theorem EV.callG {R : Rel} {kf : Nat} {os0 : List O} {o0 : O} {M0 M0' : Mem} {ι : List Nat} (F : FN C.g x kf R) (ha : EA C (e :: es) E M os M1) (hR : R os0 M0 o0 M0') (ho : os = os0.map (·.ren (rho ι M1.length))) (mx : Mix ι M1 M0 M0' M2) (hk : Nat.ble kf C.k = true := by rfl)
    (hg : C.sc.names.lookup x = some .globalImplicit := by rfl) (hdb : (x == ("__debug__" : Str)) = false := by decide) (he : ∀ env, starEach (e :: es) env = (false, eval e env) :: starEach es env := by intro _; rfl) (hpl : ∀ env, (backTo pos (starEach es env)).any (·.1) = false := by intro _; rfl) :
    EV C (.Call (.Name x p) (e :: es) [] pos) E M (o0.ren (rho ι M1.length)) M2 := by
  obtain ⟨f, fd, ps, F, hm, hkp, hb⟩ := F
  refine EV.mk (t := tCall (spR R) [] E0 (UA C (e :: es))) (fun X hX => ?_) (ev_call ha hR ho mx)
  refine pe_call (k := kf) (f := f) (fd := fd) (ps := ps) (by rw [hX.P, hX.w, hX.K, hX.mg, hX.base]; exact F) (hX.room.mono (Nat.le_of_ble_eq_true hk)) (by show X.env.scope.names.lookup x = _; rw [hX.sc]; exact hg) (by rw [hX.mg]; exact hm) (by rw [hX.K]; exact hkp) (by rw [hX.K]; exact hb) .nil pass0 (ua hX _) hdb (he X.env) (hpl X.env)
theorem mix0 : Mix [] M [] [] M := ⟨rfl, List.nodup_nil, rfl, fun i k h => by simp at h, fun k os h => .inl ⟨by simp, h⟩⟩
theorem ren_dat {ρ : Nat → Nat} : ∀ ds : List D, (ds.map O.dat).map (·.ren ρ) = ds.map O.dat
  | [] => rfl
  | d :: ds => by
    show O.dat d :: _ = O.dat d :: _
    rw [ren_dat ds]
theorem mix1 {n : Nat} {ds ds' : List D} (h : M[n]? = some (some (ds.map .dat))) : Mix [n] M [some (ds.map .dat)] [some (ds'.map .dat)] (M.set n (some (ds'.map .dat))) := by
  refine ⟨rfl, by simp, by simp, fun i k hk => ?_, fun k os hk => ?_⟩
  · have hi : i = 0 := by
      have := (List.getElem?_eq_some_iff.mp hk).1
      simp at this
      exact this
    subst hi
    have : n = k := by simpa using hk
    subst this
    rw [h]
    show _ = some (some ((ds.map O.dat).map _))
    rw [ren_dat]
  · by_cases hn : k = n
    · subst hn
      rw [List.getElem?_set_self (List.getElem?_eq_some_iff.mp h).1] at hk
      refine .inr ⟨0, ds'.map .dat, rfl, .inl (by simp), rfl, ?_⟩
      rw [ren_dat]
      exact (Option.some.inj (Option.some.inj hk)).symm
    · rw [List.getElem?_set_ne (fun z => hn z.symm)] at hk
      exact .inl ⟨by simpa using hn, hk⟩
theorem mixN {ds : List D} : Mix [] M [] [some (ds.map .dat)] (M ++ [some (ds.map .dat)]) := by
  refine ⟨rfl, List.nodup_nil, by simp, fun i k h => by simp at h, fun k os hk => ?_⟩
  by_cases hn : k < M.length
  · rw [List.getElem?_append_left hn] at hk
    exact .inl ⟨by simp, hk⟩
  · rw [List.getElem?_append_right (Nat.le_of_not_lt hn)] at hk
    have h0 : k - M.length = 0 := by
      have := (List.getElem?_eq_some_iff.mp hk).1
      simp at this
      omega
    rw [h0] at hk
    refine .inr ⟨0, ds.map .dat, ?_, .inr (Nat.le_refl _), rfl, ?_⟩
    · show M.length + (0 - 0) = k
      omega
    · rw [ren_dat]
      exact (Option.some.inj (Option.some.inj hk)).symm
theorem mix1N {n : Nat} {ds ds' es : List D} (h : M[n]? = some (some (ds.map .dat))) : Mix [n] M [some (ds.map .dat)] [some (ds'.map .dat), some (es.map .dat)] (M.set n (some (ds'.map .dat)) ++ [some (es.map .dat)]) := by
  refine ⟨rfl, by simp, by simp, fun i k hk => ?_, fun k os hk => ?_⟩
  · have hi : i = 0 := by
      have := (List.getElem?_eq_some_iff.mp hk).1
      simp at this
      exact this
    subst hi
    have : n = k := by simpa using hk
    subst this
    rw [h]
    show _ = some (some ((ds.map O.dat).map _))
    rw [ren_dat]
  · have hnl : n < M.length := (List.getElem?_eq_some_iff.mp h).1
    by_cases hlt : k < M.length
    · rw [List.getElem?_append_left (by rw [List.length_set]; exact hlt)] at hk
      by_cases hn : k = n
      · subst hn
        rw [List.getElem?_set_self hnl] at hk
        refine .inr ⟨0, ds'.map .dat, rfl, .inl (by simp), rfl, ?_⟩
        rw [ren_dat]
        exact (Option.some.inj (Option.some.inj hk)).symm
      · rw [List.getElem?_set_ne (fun z => hn z.symm)] at hk
        exact .inl ⟨by simpa using hn, hk⟩
    · rw [List.getElem?_append_right (by rw [List.length_set]; exact Nat.le_of_not_lt hlt), List.length_set] at hk
      have h0 : k - M.length = 0 := by
        have := (List.getElem?_eq_some_iff.mp hk).1
        simp at this
        omega
      rw [h0] at hk
      refine .inr ⟨1, es.map .dat, ?_, .inr (by simp), rfl, ?_⟩
      · show M.length + (1 - 1) = k
        omega
      · rw [ren_dat]
        exact (Option.some.inj (Option.some.inj hk)).symm
/-- a def of data alone -/
theorem EV.call {R : Rel} {kf : Nat} {ds : List D} (F : FN C.g x kf R) (ha : EA C (e :: es) E M (ds.map .dat) M1) (hR : R (ds.map .dat) [] (.dat d) []) (hk : Nat.ble kf C.k = true := by rfl)
    (hg : C.sc.names.lookup x = some .globalImplicit := by rfl) (hdb : (x == ("__debug__" : Str)) = false := by decide) (he : ∀ env, starEach (e :: es) env = (false, eval e env) :: starEach es env := by intro _; rfl) (hpl : ∀ env, (backTo pos (starEach es env)).any (·.1) = false := by intro _; rfl) :
    EV C (.Call (.Name x p) (e :: es) [] pos) E M (.dat d) M1 := EV.callG (ι := []) F ha hR (by rw [ren_dat]) mix0 hk hg hdb he hpl
/-- .. that hands back a new list -/
theorem EV.callN {R : Rel} {kf : Nat} {ds fs : List D} (F : FN C.g x kf R) (ha : EA C (e :: es) E M (ds.map .dat) M1) (hR : R (ds.map .dat) [] (.adr 0) [some (fs.map .dat)]) (hk : Nat.ble kf C.k = true := by rfl)
    (hg : C.sc.names.lookup x = some .globalImplicit := by rfl) (hdb : (x == ("__debug__" : Str)) = false := by decide) (he : ∀ env, starEach (e :: es) env = (false, eval e env) :: starEach es env := by intro _; rfl) (hpl : ∀ env, (backTo pos (starEach es env)).any (·.1) = false := by intro _; rfl) :
    EV C (.Call (.Name x p) (e :: es) [] pos) E M (.adr M1.length) (M1 ++ [some (fs.map .dat)]) := EV.callG (ι := []) F ha hR (by rw [ren_dat]) mixN hk hg hdb he hpl
/-- a def that turns one list, lent first -/
theorem EV.call1 {R : Rel} {kf n : Nat} {ds cs cs' : List D} (F : FN C.g x kf R) (ha : EA C (e :: es) E M (.adr n :: ds.map .dat) M1) (hc : M1[n]? = some (some (cs.map .dat))) (hR : R (.adr 0 :: ds.map .dat) [some (cs.map .dat)] (.dat d) [some (cs'.map .dat)]) (hk : Nat.ble kf C.k = true := by rfl)
    (hg : C.sc.names.lookup x = some .globalImplicit := by rfl) (hdb : (x == ("__debug__" : Str)) = false := by decide) (he : ∀ env, starEach (e :: es) env = (false, eval e env) :: starEach es env := by intro _; rfl) (hpl : ∀ env, (backTo pos (starEach es env)).any (·.1) = false := by intro _; rfl) :
    EV C (.Call (.Name x p) (e :: es) [] pos) E M (.dat d) (M1.set n (some (cs'.map .dat))) := EV.callG (ι := [n]) F ha hR (by show _ = O.adr n :: _; rw [ren_dat]) (mix1 hc) hk hg hdb he hpl
theorem EV.call1N {R : Rel} {kf n : Nat} {ds cs cs' fs : List D} (F : FN C.g x kf R) (ha : EA C (e :: es) E M (.adr n :: ds.map .dat) M1) (hc : M1[n]? = some (some (cs.map .dat))) (hR : R (.adr 0 :: ds.map .dat) [some (cs.map .dat)] (.adr 1) [some (cs'.map .dat), some (fs.map .dat)]) (hk : Nat.ble kf C.k = true := by rfl)
    (hg : C.sc.names.lookup x = some .globalImplicit := by rfl) (hdb : (x == ("__debug__" : Str)) = false := by decide) (he : ∀ env, starEach (e :: es) env = (false, eval e env) :: starEach es env := by intro _; rfl) (hpl : ∀ env, (backTo pos (starEach es env)).any (·.1) = false := by intro _; rfl) :
    EV C (.Call (.Name x p) (e :: es) [] pos) E M (.adr M1.length) (M1.set n (some (cs'.map .dat)) ++ [some (fs.map .dat)]) := EV.callG (ι := [n]) F ha hR (by show _ = O.adr n :: _; rw [ren_dat]) (mix1N hc) hk hg hdb he hpl
end
end Ab
/-! Ab: list(reversed(xs)). -/
namespace AbRev
open PySem PySem.W PySem.Calls PyProof.Rows PySem.Spec RT
section
variable {prog : Program} {w : World} {A : Around} {E : Value → Shared → Prop} {s : Shared}
theorem extend_rev {R : Result → Shared → Prop} {it l : Addr} {items : Array Value} (hh : A.handled = none) (hit : s.heap.IsRevIter it l ((items.size : Int) - 1)) (hl : s.heap.IsList l items) (hne : l ≠ it) (hn : items.size ≤ sizeLine) (S : Addr) (res : Value) (c₀ : Nat) (hS : s.heap.get? S = some { cls := .type "list", data := .seq #[] c₀ }) (hSi : S ≠ it) (hSl : S ≠ l)
    (hR : ∀ h' tk acc' c', (∀ b o, b ≠ S → b ≠ it → s.heap.get? b = some o → h'.get? b = some o) → h'.get? S = some { cls := .type "list", dict := none, data := .seq acc' c', slots := #[] } →
      ItemsOf (fun i v => items[items.size - 1 - i]? = some v) acc' items.size → R (.ok (.ret res)) { s with heap := h', toks := tk }) :
    wpAny (model prog w) A.in1 (Builtin.List.listExtendWith (.ref S) (.ref it) res)
      (fun fin s' => match fin with | .done f => R (.ok f) s' | .again c' => c'.quiet = true ∧ codeAny (model prog w) A c' R s') (fun e s' => R (.error e) s') s := by
  have W := (Walks.listRev (prog := prog) (w := w) (A := A.in1) hh it l hne items).toS
  have hSf : S ∉ [it, l] := by simp only [List.mem_cons, List.not_mem_nil, or_false, not_or]; exact ⟨hSi, hSl⟩
  have hT : s.TypeIs (.ref it) "list_reverseiterator" := Heap.IsRevIter.typeIs hit
  have h1 : Builtin.List.listSameRef (.ref S) (.ref it) = false := by simp [Builtin.List.listSameRef, hSi]
  unfold Builtin.List.listExtendWith
  refine wpAny_bind (wpAny_typeOf hT ?_)
  rw [if_neg (by rw [h1]; decide)]
  refine wpAny_bind (wpAny_pyIter_revIter hit ?_)
  refine wpAny_bind (wpAny_holding ?_)
  unfold Builtin.List.listLengthHint
  refine wpAny_bind (wpAny_specialOf hT nolen_lri ?_)
  show wpAny _ A.in1 (specialOf (Value.ref it) (Str.ofString "__length_hint__") >>= _) _ _ _
  refine wpAny_bind (wpAny_specialOf hT hint_lri ?_)
  generalize hid : ("list_reverseiterator.__length_hint__" : String) = id0
  wp_delta
  rw [show splitId id0 = some ("list_reverseiterator", "__length_hint__") from by subst hid; decide +kernel]
  subst hid
  refine wpAny_bind (wpAny_isInstance (b := true) hT (by rw [isSubtype_type]; kernel_rfl) ?_)
  refine wpAny_pure ?_
  rw [if_neg (by decide)]
  have e0 : ((items.size : Nat) : Int) - 1 - ((0 : Nat) : Int) = (items.size : Int) - 1 := by omega
  refine wpAny_pure ⟨plainId_quiet F.plain_extend_loop _, codeAny_extend_loopS W hn S hSf _ items.size 0 _ #[] c₀ rfl (Nat.zero_le _) ⟨Nat.zero_le _, by rw [e0]; exact hit, hl⟩ hS (ItemsOf.nil _) fun s' acc' c' hm hS' hacc => ?_⟩
  rw [Moved.eq_with hm]
  refine hR s'.heap s'.toks acc' c' (fun b o hb hb2 e => hm.heap b o (fun hmem => ?_) e) hS' hacc
  rcases List.mem_cons.mp hmem with e' | hmem
  · exact hb e'
  · exact hb2 (List.mem_singleton.mp hmem)
theorem list_init_rev {R : Result → Shared → Prop} {it l : Addr} {items : Array Value} (hh : A.handled = none) (hit : s.heap.IsRevIter it l ((items.size : Int) - 1)) (hl : s.heap.IsList l items) (hne : l ≠ it) (hn : items.size ≤ sizeLine) (S : Addr) (hS : s.heap.get? S = some { cls := .type "list", data := .seq #[] }) (hSi : S ≠ it) (hSl : S ≠ l)
    (hR : ∀ h' tk acc' c', (∀ b o, b ≠ S → b ≠ it → s.heap.get? b = some o → h'.get? b = some o) → h'.get? S = some { cls := .type "list", dict := none, data := .seq acc' c', slots := #[] } →
      ItemsOf (fun i v => items[items.size - 1 - i]? = some v) acc' items.size → R (.ok (.ret .none)) { s with heap := h', toks := tk }) :
    wpAny (model prog w) A.in1 (Builtin.«list.__init__» ⟨[.ref S, .ref it], []⟩)
      (fun fin s' => match fin with | .done f => R (.ok f) s' | .again c' => c'.quiet = true ∧ codeAny (model prog w) A c' R s') (fun e s' => R (.error e) s') s := by
  show wpAny _ _ (do let old ← Builtin.List.listItems (.ref S); Builtin.List.listUpdate (.ref S) (fun _ => #[]); letGo old.toList.reverse; Builtin.List.listExtendWith (.ref S) (.ref it) .none) _ _ s
  refine wpAny_bind ?_
  unfold Builtin.List.listItems
  refine wpAny_bind (wpAny_seqItems hS rfl (wpAny_pure ?_))
  show wpAny _ _ (updateSeq S (fun _ => #[]) >>= fun _ => letGo (#[] : Array Value).toList.reverse >>= fun _ => Builtin.List.listExtendWith (.ref S) (.ref it) .none) _ _ s
  refine wpAny_bind (wpAny_updateSeq hS rfl ?_)
  have hS₂ := Heap.get?_update_self (Obj.mapSeq (fun _ => (#[] : Array Value))) hS rfl
  have oth : ∀ b o, b ≠ S → s.heap.get? b = some o → (s.heap.update S (Obj.mapSeq (fun _ => (#[] : Array Value)))).get? b = some o :=
    fun b o hb e => (Heap.get?_update_other _ _ (Ne.symm hb)).trans e
  refine wpAny_bind (wpAny_letGo ?_)
  refine extend_rev hh (hit.at fun o e => oth it o (Ne.symm hSi) e) (hl.at fun o e => oth l o (Ne.symm hSl) e) hne hn S .none _ hS₂ hSi hSl fun h' tk acc' c' hk hS' hacc => ?_
  exact hR h' tk acc' c' (fun b o hb hb2 e => hk b o hb hb2 (oth b o hb e)) hS' hacc
theorem call_list_rev {it l : Addr} {items : Array Value} {Q : Value → Shared → Prop} (hh : A.handled = none) (hit : s.heap.IsRevIter it l ((items.size : Int) - 1)) (hl : s.heap.IsList l items) (hne : l ≠ it) (hn : items.size ≤ sizeLine)
    (hQ : ∀ h' tk acc' c', (∀ b o, b ≠ it → s.heap.get? b = some o → h'.get? b = some o) →
      h'.get? s.heap.objs.size = some { cls := .type "list", dict := none, data := .seq acc' c', slots := #[] } → ItemsOf (fun i v => items[items.size - 1 - i]? = some v) acc' items.size → Q (.ref s.heap.objs.size) { s with heap := h', toks := tk }) :
    wpAny (model prog w) A (call (.type "list") [.ref it]) Q E s := by
  refine callType_codes (Q₁ := fun obj s₁ => obj = .ref s.heap.objs.size ∧ s₁ = { s with heap := s.heap.push { cls := .type "list", data := .seq #[] } }) F.called_list (F.typeCall_list_1 _) F.entry_list_init
    (code_list_new _ ⟨rfl, rfl⟩) fun obj s₁ h₁ => ?_
  obtain ⟨rfl, rfl⟩ := h₁
  obtain ⟨oi, hoi, _⟩ := id hit
  obtain ⟨ol, hol, _⟩ := id hl
  have hS : (s.heap.push { cls := .type "list", data := .seq #[] }).get? s.heap.objs.size = some { cls := .type "list", data := .seq #[] } := Heap.get?_push_size _ rfl
  refine ⟨⟨_, hS, rfl⟩, F.args_list_init_2 _ _, list_init_rev (A := A.in1) (s := { s with heap := s.heap.push { cls := .type "list", data := .seq #[] } }) hh (hit.at fun o e => Heap.get?_push_of_some _ e) (hl.push _) hne hn _ hS (Nat.ne_of_gt (Heap.lt_size hoi)) (Nat.ne_of_gt (Heap.lt_size hol)) fun h' tk acc' c' hk hS' hacc => ?_⟩
  exact ⟨rfl, hQ h' tk acc' c' (fun b o hb e => hk b o (Nat.ne_of_lt (Heap.lt_size e)) hb (Heap.get?_push_of_some _ e)) hS' hacc⟩
end
end AbRev

namespace Ab
open PySem PySem.Spec PyProof.Rows L2
variable [TabCtx]
def tListRev (K : PySem.W.Frag) (te : TE) : TE := fun σ H Q => te σ H fun v H1 => ∃ (a : Addr) (xs : List V), v = .ref a ∧ SqL K H1 a xs ∧ ∀ q, H1 q = none → Q (.ref q) (upd H1 q (.lst xs.reverse))
theorem pe_listRev {X : Cx} {e : Expr} {te : TE} {p p2 pos pos2 : Pos} (hc : X.calm = true) (hg : Gl X "list") (hm : X.mg "list" = none) (hg2 : Gl X "reversed") (hm2 : X.mg "reversed" = none) (he : PE X e te)
    (hs : starEach [e] X.env = (false, eval e X.env) :: starEach [] X.env := by rfl)
    (hs2 : starEach [.Call (.Name "reversed" p2) [e] [] pos2] X.env = (false, eval (.Call (.Name "reversed" p2) [e] [] pos2) X.env) :: starEach [] X.env := by rfl) :
    PE X (.Call (.Name "list" p) [.Call (.Name "reversed" p2) [e] [] pos2] [] pos) (tListRev X.K te) := by
  refine ⟨fun pins s σ H Q I h => ?_⟩
  refine Call_ (ld_blt I hg hm (by decide +kernel : bootBuiltins "list" = some (.type "list")) (PyProof.Rows.callWith_type1 (args_cons (Call_ (ld_blt I hg2 hm2 PyProof.Rows.boot_reversed (PyProof.Rows.callWith_type1 (args_cons (thn (he.run pins s σ H _ I h) fun u s1 ⟨v, H1, I1, r1, q1⟩ => args_nil ?_) hs) hs rfl))) hs2) hs2 rfl))
  obtain ⟨a, xs, ev, hq, q⟩ := q1
  subst ev
  obtain rfl : u = Value.ref a := r1
  obtain ⟨its, rv, p', hz⟩ := I1.list hq
  refine call_reversed_list p'.isList (args_nil ?_)
  have k0 : ∀ b o, s1.heap.get? b = some o → (s1.heap.push (revObj a ((its.toArray.size : Int) - 1))).get? b = some o := fun b o e => Heap.get?_push_of_some _ e
  have I2 : Inv X pins σ H1 { s1 with heap := s1.heap.push (revObj a ((its.toArray.size : Int) - 1)) } := I1.kept (t' := s1.toks) k0
  have hf := I1.fpOk (H' := H1) (b := s1.heap.objs.size) (Nat.le_refl _) (I1.hok.fresh (Nat.le_refl _))
  have hl := p'.isList
  obtain ⟨ol, hol, _⟩ := id hl
  have hne : a ≠ s1.heap.objs.size := Nat.ne_of_lt (Heap.lt_size hol)
  have hn : its.toArray.size ≤ sizeLine := by rw [List.size_toArray, ← rv.length]; exact hz
  refine AbRev.call_list_rev (s := { s1 with heap := s1.heap.push (revObj a ((its.toArray.size : Int) - 1)) }) (I1.ok.hd hc) ⟨_, Heap.get?_push_size _ rfl, rfl, rfl⟩ (hl.push _) hne hn fun h' tk acc c' hk hS hi => ?_
  have new : ObjOk X.prog X.w (upd H1 (s1.heap.push (revObj a ((its.toArray.size : Int) - 1))).objs.size (.lst xs.reverse)) h' (s1.heap.push (revObj a ((its.toArray.size : Int) - 1))).objs.size (.lst xs.reverse) :=
    ⟨by rw [List.length_reverse]; exact hz, acc.toList, c', RT.vals_rev rv hi, by rw [Array.toArray_toList]; exact hS⟩
  exact ⟨.ref _, _, I2.turnedNew (t' := tk) (ch := [s1.heap.objs.size]) (fun b o hb e => hk b o (fun z => hb (by rw [z]; exact List.mem_singleton.mpr rfl)) e) (fun b hb => by rw [List.mem_singleton.mp hb]; exact hf) (Nat.le_refl _) new, rfl, q _ (I2.hok.fresh (Nat.le_refl _))⟩
end Ab
/-! Ab: short words. -/
namespace Ab
open PySem PySem.Spec PyProof.Rows L2
variable [TabCtx]
section
variable {C : Cc} {E E1 E2 E' : List O} {M M1 M2 M3 M' : Mem} {o o1 o2 o3 : O} {os : List O} {e a b c tg iter elt : Expr} {es : List Expr} {pos pos' p p2 pos2 : Pos} {d d1 d2 : D} {i j : Int} {n : Nat} {k k' : Bool} {r : Out} {body : List Stmt} {x y : Str} {ds : List D}

/-! ### built-ins by name -/
theorem EV.bi {id : String} (S : KS C (.builtin id) [o1] M1 o M') (h : EV C a E M o1 M1) (hm : Bt C.g x) (hv : bootBuiltins x = some (.builtin id)) (hn : x ≠ "__name__") (hdb : (x == ("__debug__" : Str)) = false) (hg : C.sc.names.lookup x = some .globalImplicit)
    (he : ∀ env, starEach [a] env = (false, eval a env) :: starEach [] env) : EV C (.Call (.Name x p) [a] [] pos) E M o M' := EV.cb S (EA.cons h EA.nil he) hm hv hg hn hdb he (fun _ => rfl)
theorem EV.bt {T : String} (S : KS C (.type T) [o1] M1 o M') (h : EV C a E M o1 M1) (hm : Bt C.g x) (hv : bootBuiltins x = some (.type T)) (hn : x ≠ "__name__") (hdb : (x == ("__debug__" : Str)) = false) (hg : C.sc.names.lookup x = some .globalImplicit)
    (he : ∀ env, starEach [a] env = (false, eval a env) :: starEach [] env) : EV C (.Call (.Name x p) [a] [] pos) E M o M' := EV.cty S (EA.cons h EA.nil he) hm hv hg hn hdb he (fun _ => rfl)
theorem bv_len : bootBuiltins "len" = some (.builtin "len") := by decide +kernel
theorem bv_sum : bootBuiltins "sum" = some (.builtin "sum") := by decide +kernel
theorem bv_all : bootBuiltins "all" = some (.builtin "all") := by decide +kernel
theorem bv_any : bootBuiltins "any" = some (.builtin "any") := by decide +kernel
theorem bv_abs : bootBuiltins "abs" = some (.builtin "abs") := by decide +kernel
theorem bv_min : bootBuiltins "min" = some (.builtin "min") := by decide +kernel
theorem bv_max : bootBuiltins "max" = some (.builtin "max") := by decide +kernel
theorem bv_int : bootBuiltins "int" = some (.type "int") := by decide +kernel
theorem bv_bool : bootBuiltins "bool" = some (.type "bool") := by decide +kernel
theorem bv_str : bootBuiltins "str" = some (.type "str") := by decide +kernel
theorem bv_tuple : bootBuiltins "tuple" = some (.type "tuple") := by decide +kernel
theorem bv_list : bootBuiltins "list" = some (.type "list") := by decide +kernel
theorem EV.len (h : EV C a E M (.dat d) M') (hl : lenD d = some n) (hm : Bt C.g "len") (hx : x = "len" := by rfl) (hg : C.sc.names.lookup x = some .globalImplicit := by rfl) (he : ∀ env, starEach [a] env = (false, eval a env) :: starEach [] env := by intro _; rfl) : EV C (.Call (.Name x p) [a] [] pos) E M (.dat (.int (n : Int))) M' := by
  subst hx; exact EV.bi (KS.len hl) h hm bv_len (by decide) (by decide) hg he
theorem EV.lenC {nn : Nat} {ps : List O} (h : EV C a E M (.adr nn) M') (hl : M'[nn]? = some (some ps)) (hm : Bt C.g "len") (hx : x = "len" := by rfl) (hg : C.sc.names.lookup x = some .globalImplicit := by rfl) (he : ∀ env, starEach [a] env = (false, eval a env) :: starEach [] env := by intro _; rfl) : EV C (.Call (.Name x p) [a] [] pos) E M (.dat (.int (ps.length : Int))) M' := by
  subst hx; exact EV.bi (KS.lenC hl) h hm bv_len (by decide) (by decide) hg he
theorem EV.sum {ns : List Int} (h : EV C a E M (.dat (.lst (ns.map .int))) M') (hm : Bt C.g "sum") (hx : x = "sum" := by rfl) (hg : C.sc.names.lookup x = some .globalImplicit := by rfl) (he : ∀ env, starEach [a] env = (false, eval a env) :: starEach [] env := by intro _; rfl) : EV C (.Call (.Name x p) [a] [] pos) E M (.dat (.int ns.sum)) M' := by
  subst hx; exact EV.bi KS.sum h hm bv_sum (by decide) (by decide) hg he
theorem EV.all {bs : List Bool} (h : EV C a E M (.dat (.lst (bs.map .bl))) M') (hm : Bt C.g "all") (hx : x = "all" := by rfl) (hg : C.sc.names.lookup x = some .globalImplicit := by rfl) (he : ∀ env, starEach [a] env = (false, eval a env) :: starEach [] env := by intro _; rfl) : EV C (.Call (.Name x p) [a] [] pos) E M (.dat (.bl (bs.all id))) M' := by
  subst hx; exact EV.bi KS.all h hm bv_all (by decide) (by decide) hg he
theorem EV.any {bs : List Bool} (h : EV C a E M (.dat (.lst (bs.map .bl))) M') (hm : Bt C.g "any") (hx : x = "any" := by rfl) (hg : C.sc.names.lookup x = some .globalImplicit := by rfl) (he : ∀ env, starEach [a] env = (false, eval a env) :: starEach [] env := by intro _; rfl) : EV C (.Call (.Name x p) [a] [] pos) E M (.dat (.bl (bs.any id))) M' := by
  subst hx; exact EV.bi KS.any h hm bv_any (by decide) (by decide) hg he
theorem EV.abs (h : EV C a E M (.dat (.int i)) M') (hm : Bt C.g "abs") (hx : x = "abs" := by rfl) (hg : C.sc.names.lookup x = some .globalImplicit := by rfl) (he : ∀ env, starEach [a] env = (false, eval a env) :: starEach [] env := by intro _; rfl) : EV C (.Call (.Name x p) [a] [] pos) E M (.dat (.int (i.natAbs : Int))) M' := by
  subst hx; exact EV.bi KS.abs h hm bv_abs (by decide) (by decide) hg he
theorem EV.intI (h : EV C a E M (.dat (.int i)) M') (hm : Bt C.g "int") (hx : x = "int" := by rfl) (hg : C.sc.names.lookup x = some .globalImplicit := by rfl) (he : ∀ env, starEach [a] env = (false, eval a env) :: starEach [] env := by intro _; rfl) : EV C (.Call (.Name x p) [a] [] pos) E M (.dat (.int i)) M' := by
  subst hx; exact EV.bt KS.intI h hm bv_int (by decide) (by decide) hg he
theorem EV.intB (h : EV C a E M (.dat (.bl k)) M') (hm : Bt C.g "int") (hx : x = "int" := by rfl) (hg : C.sc.names.lookup x = some .globalImplicit := by rfl) (he : ∀ env, starEach [a] env = (false, eval a env) :: starEach [] env := by intro _; rfl) : EV C (.Call (.Name x p) [a] [] pos) E M (.dat (.int (if k then 1 else 0))) M' := by
  subst hx; exact EV.bt KS.intB h hm bv_int (by decide) (by decide) hg he
theorem EV.tuple (h : EV C a E M (.dat d) M') (hl : seqD d = some ds) (hm : Bt C.g "tuple") (hx : x = "tuple" := by rfl) (hg : C.sc.names.lookup x = some .globalImplicit := by rfl) (he : ∀ env, starEach [a] env = (false, eval a env) :: starEach [] env := by intro _; rfl) : EV C (.Call (.Name x p) [a] [] pos) E M (.dat (.tup ds)) M' := by
  subst hx; exact EV.bt (KS.tuple hl) h hm bv_tuple (by decide) (by decide) hg he
theorem EV.tupleC {nn : Nat} (h : EV C a E M (.adr nn) M') (hl : M'[nn]? = some (some (ds.map .dat))) (hm : Bt C.g "tuple") (hx : x = "tuple" := by rfl) (hg : C.sc.names.lookup x = some .globalImplicit := by rfl) (he : ∀ env, starEach [a] env = (false, eval a env) :: starEach [] env := by intro _; rfl) : EV C (.Call (.Name x p) [a] [] pos) E M (.dat (.tup ds)) M' := by
  subst hx; exact EV.bt (KS.tupleC hl) h hm bv_tuple (by decide) (by decide) hg he
theorem EV.list (h : EV C a E M (.dat d) M') (hl : seqD d = some ds) (hm : Bt C.g "list") (hx : x = "list" := by rfl) (hg : C.sc.names.lookup x = some .globalImplicit := by rfl) (he : ∀ env, starEach [a] env = (false, eval a env) :: starEach [] env := by intro _; rfl) : EV C (.Call (.Name x p) [a] [] pos) E M (.dat (.lst ds)) M' := by
  subst hx; exact EV.bt (KS.list hl) h hm bv_list (by decide) (by decide) hg he
theorem EV.listN (h : EV C a E M (.dat d) M') (hl : seqD d = some ds) (hm : Bt C.g "list") (hx : x = "list" := by rfl) (hg : C.sc.names.lookup x = some .globalImplicit := by rfl) (he : ∀ env, starEach [a] env = (false, eval a env) :: starEach [] env := by intro _; rfl) : EV C (.Call (.Name x p) [a] [] pos) E M (.adr M'.length) (M' ++ [some (ds.map .dat)]) := by
  subst hx; exact EV.bt (KS.listN hl) h hm bv_list (by decide) (by decide) hg he
theorem EV.max2 (h : EV C a E M (.dat (.int i)) M1) (h' : EV C b E M1 (.dat (.int j)) M') (hm : Bt C.g "max") (hx : x = "max" := by rfl) (hg : C.sc.names.lookup x = some .globalImplicit := by rfl) (he : ∀ env, starEach [a, b] env = (false, eval a env) :: starEach [b] env := by intro _; rfl) (he2 : ∀ env, starEach [b] env = (false, eval b env) :: starEach [] env := by intro _; rfl) (hpl : ∀ env, (backTo pos (starEach [b] env)).any (·.1) = false := by intro _; rfl) : EV C (.Call (.Name x p) [a, b] [] pos) E M (.dat (.int (max i j))) M' := by
  subst hx
  have := EV.cb (p := p) (pos := pos) (KS.max2 (C := C) (M := M') (i := i) (j := j)) (EA.cons h (EA.cons h' EA.nil he2) he) hm bv_max hg (by decide) (by decide) he hpl
  have e : (if j > i then j else i) = max i j := by split <;> omega
  rw [e] at this
  exact this
/-- list(reversed(xs)), a cell -/
theorem EV.listRevN (h : EV C a E M (.dat (.lst ds)) M') (hm : Bt C.g "list") (hm2 : Bt C.g "reversed") (hx : x = "list" := by rfl) (hy : y = "reversed" := by rfl) (hg : C.sc.names.lookup x = some .globalImplicit := by rfl) (hg2 : C.sc.names.lookup y = some .globalImplicit := by rfl) (he : ∀ env, starEach [a] env = (false, eval a env) :: starEach [] env := by intro _; rfl) :
    EV C (.Call (.Name x p) [.Call (.Name y p2) [a] [] pos2] [] pos) E M (.adr M'.length) (M' ++ [some (ds.reverse.map .dat)]) := by
  subst hx hy
  refine EV.mk (t := tListRev C.g.K (UE C a)) (fun X hX => ?_) fun I H adr σ Q s q => h I H adr σ _ s fun v I1 H1 adr1 s1 g1 v1 => ?_
  · have := pe_listRev (p := p) (p2 := p2) (pos := pos) (pos2 := pos2) hX.calm (by show X.env.scope.names.lookup _ = _; rw [hX.sc]; exact hg) (by rw [hX.mg]; exact hm) (by show X.env.scope.names.lookup _ = _; rw [hX.sc]; exact hg2) (by rw [hX.mg]; exact hm2) (ue hX a) (he X.env) rfl
    rw [hX.K] at this
    exact this
  · cases (show Rep I1 (.lst ds) v from v1) with
    | @lst q' xs _ hp hr =>
      refine ⟨q', xs, rfl, sql_uniq (s1.ex _ _ hp), fun q2 h2 => ?_⟩
      obtain ⟨s2, g2, r2⟩ := s1.cel h2 (Vs.reps hr.reverse)
      exact q _ _ _ _ s2 (g1.trans g2) ⟨q2, r2, rfl⟩
theorem EV.listRev (h : EV C a E M (.dat (.lst ds)) M') (hm : Bt C.g "list") (hm2 : Bt C.g "reversed") (hl : M.length ≤ M'.length) (ok : OkM M M') (hx : x = "list" := by rfl) (hy : y = "reversed" := by rfl) (hg : C.sc.names.lookup x = some .globalImplicit := by rfl) (hg2 : C.sc.names.lookup y = some .globalImplicit := by rfl) (he : ∀ env, starEach [a] env = (false, eval a env) :: starEach [] env := by intro _; rfl) :
    EV C (.Call (.Name x p) [.Call (.Name y p2) [a] [] pos2] [] pos) E M (.dat (.lst ds.reverse)) M' := Ev.froz (EV.listRevN h hm hm2 hx hy hg hg2 he) rfl hl ok

/-! ### sums and the like -/
theorem EV.add (ha : EV C a E M (.dat (.int i)) M1) (hb : EV C b E M1 (.dat (.int j)) M') : EV C (.BinOp a .Add b pos) E M (.dat (.int (i + j))) M' := EV.bin ha hb BS.addI
theorem EV.sub (ha : EV C a E M (.dat (.int i)) M1) (hb : EV C b E M1 (.dat (.int j)) M') : EV C (.BinOp a .Sub b pos) E M (.dat (.int (i - j))) M' := EV.bin ha hb BS.subI
theorem EV.mul (ha : EV C a E M (.dat (.int i)) M1) (hb : EV C b E M1 (.dat (.int j)) M') (h : IntMulOk i j) : EV C (.BinOp a .Mult b pos) E M (.dat (.int (i * j))) M' := EV.bin ha hb (BS.mulI h)
theorem EV.mod (ha : EV C a E M (.dat (.int i)) M1) (hb : EV C b E M1 (.dat (.int j)) M') (h : 0 < j) : EV C (.BinOp a .Mod b pos) E M (.dat (.int (i % j))) M' := EV.bin ha hb (BS.modI h)
theorem EV.div (ha : EV C a E M (.dat (.int i)) M1) (hb : EV C b E M1 (.dat (.int j)) M') (h : CDivW i j) : EV C (.BinOp a .FloorDiv b pos) E M (.dat (.int (i / j))) M' := EV.bin ha hb (BS.divI h)
theorem EV.pow (ha : EV C a E M (.dat (.int i)) M1) (hb : EV C b E M1 (.dat (.int j)) M') (h : CPow i j) : EV C (.BinOp a .Pow b pos) E M (.dat (.int (i ^ j.toNat))) M' := EV.bin ha hb (BS.powI h)
theorem mul_ok {i j : Int} {m n : Nat} (hi : i.natAbs < 2 ^ m) (hj : j.natAbs < 2 ^ n) (h0 : 0 < m := by decide) (h1 : 0 < n := by decide) (h : m + n ≤ 1000000 := by decide) : IntMulOk i j := CMulW.ok (wide_mul hi hj h0 h1 h)
theorem bits_le {i : Int} (h : -(2 ^ 64) < i ∧ i < 2 ^ 64) : Builtin.Int.intBits i ≤ 64 := by
  unfold Builtin.Int.intBits
  split
  · omega
  · have h1 : i.natAbs < 2 ^ 64 := by omega
    have := PySem.Flt.log2_lt_of (show 0 < 64 by decide) h1
    omega
theorem mul_okL {i j : Int} (h : -(2 ^ 64) < i ∧ i < 2 ^ 64) : IntMulOk i j := IntMulOk.of_left (bits_le h)
theorem mul_okR {i j : Int} (h : -(2 ^ 64) < j ∧ j < 2 ^ 64) : IntMulOk i j := IntMulOk.of_right (bits_le h)
theorem EV.mulL (ha : EV C a E M (.dat (.int i)) M1) (hb : EV C b E M1 (.dat (.int j)) M') (h : -(2 ^ 64) < i ∧ i < 2 ^ 64) : EV C (.BinOp a .Mult b pos) E M (.dat (.int (i * j))) M' := EV.mul ha hb (mul_okL h)
theorem EV.mulR (ha : EV C a E M (.dat (.int i)) M1) (hb : EV C b E M1 (.dat (.int j)) M') (h : -(2 ^ 64) < j ∧ j < 2 ^ 64) : EV C (.BinOp a .Mult b pos) E M (.dat (.int (i * j))) M' := EV.mul ha hb (mul_okR h)

/-! ### guards -/
theorem ET.to {e : Expr} (h : ET C e E M k M') (q : k = k') : ET C e E M k' M' := q ▸ h
theorem SB.guard {ys rest : List Stmt} (hc : ET C c E M k M1) (h1 : k = true → SB C ys E M1 r) (h2 : k = false → SB C rest E M1 r) (he : r.ends = true := by rfl) : SB C (.If c ys [] pos :: rest) E M r := by
  cases k with
  | true => exact SB.stop (ST.yes hc (h1 rfl)) he
  | false => exact SB.cons (ST.no hc SB.nil) (h2 rfl)
theorem SB.to {sts : List Stmt} {r' : Out} (h : SB C sts E M r) (q : r = r') : SB C sts E M r' := q ▸ h
theorem ST.to {st : Stmt} {r' : Out} (h : ST C st E M r) (q : r = r') : ST C st E M r' := q ▸ h
/-! ### a cell is frozen -/
theorem SB.fz {jj nn : Nat} {sts : List Stmt} (he : E[jj]? = some (.adr nn)) (hm : M[nn]? = some (some (ds.map .dat))) (h : SB C sts (E.set jj (.dat (.lst ds))) (M.set nn none) r) : SB C sts E M r := fun I H adr σ D s q => by
  have hk : nn < adr.length := by
    rw [s.sto.len]
    exact (List.getElem?_eq_some_iff.mp hm).1
  obtain ⟨I1, s1, g1, r1⟩ := s.frz (List.getElem?_eq_getElem hk) hm
  have hj : jj < σ.length := by
    rw [← s.len]
    exact (List.getElem?_eq_some_iff.mp he).1
  have hs := s.slot jj _ σ[jj] he (List.getElem?_eq_getElem hj)
  cases hv : σ[jj] with
  | none =>
    rw [hv] at hs
    cases hs
  | some v =>
    rw [hv] at hs
    obtain ⟨a', h1, h2⟩ := hs
    rw [List.getElem?_eq_getElem hk] at h1
    cases h1
    subst h2
    have s2 : Stt I1 H adr (σ.set jj (some (.ref adr[nn]))) (E.set jj (.dat (.lst ds))) (M.set nn none) := s1.set r1
    have e : σ.set jj (some (.ref adr[nn])) = σ := by
      rw [← hv]
      exact List.set_getElem_self hj
    rw [e] at s2
    exact h I1 H adr σ D s2 (q.mono g1)

/-! ### what a def leaves behind may be dropped -/
def LowO (n : Nat) : O → Prop
  | .adr k => k < n
  | .obj _ fs => ∀ f ∈ fs, f.2 < n
  | _ => True
def LowM (n : Nat) (M : Mem) : Prop := ∀ (k : Nat) (os : List O), M[k]? = some (some os) → ∀ o ∈ os, LowO n o
theorem LowM.nil {n : Nat} : LowM n [] := fun k os h => by simp at h
theorem LowM.dat {n : Nat} {ds : List D} {M : Mem} (h : LowM n M) : LowM n (some (ds.map .dat) :: M) := fun k os q o ho => by
  cases k with
  | zero =>
    have e : ds.map O.dat = os := Option.some.inj (Option.some.inj q)
    subst e
    obtain ⟨d, _, rfl⟩ := List.mem_map.mp ho
    exact True.intro
  | succ k => exact h k os q o ho
theorem LowM.none {n : Nat} {M : Mem} (h : LowM n M) : LowM n (none :: M) := fun k os q o ho => by
  cases k with
  | zero => cases q
  | succ k => exact h k os q o ho
theorem vo_take {I : Hp} {adr : List Addr} {n : Nat} {v : V} : ∀ {o : O}, LowO n o → Vo I adr o v → Vo I (adr.take n) o v
  | .no, _, _ => True.intro
  | .dat _, _, h => h
  | .scr _ _, _, h => h
  | .obj _ fs, hk, h => by
    obtain ⟨p, dx, gs, h1, h2, h3⟩ := h
    exact ⟨p, dx, gs, h1, h2, prImp h3 fun f hf g q => ⟨q.1, let ⟨a, e1, e2⟩ := q.2; ⟨a, by rw [List.getElem?_take, if_pos (show f.2 < n from hk f hf)]; exact e1, e2⟩⟩⟩
  | .adr k, hk, h => by
    obtain ⟨a, h1, h2⟩ := h
    exact ⟨a, by rw [List.getElem?_take, if_pos (show k < n from hk)]; exact h1, h2⟩
theorem vs_take {I : Hp} {adr : List Addr} {n : Nat} : ∀ {os : List O} {xs : List V}, (∀ o ∈ os, LowO n o) → Vs I adr os xs → Vs I (adr.take n) os xs
  | _, _, _, .nil => .nil
  | _, _, hl, .cons h r => .cons (vo_take (hl _ List.mem_cons_self) h) (vs_take (fun o ho => hl o (List.mem_cons_of_mem _ ho)) r)
theorem FN.mkJ {g : Pg} {x : Str} {st : Stmt} {N ps : List Str} {k : Nat} {R : Rel} (T : TxtF g x st) (S : FnScope N ps (defScope st))
    (hb : ∀ (kV doc pm : Value) (an : Option Addr) (cdv ct : Value) (us : List Value), us.length = ps.length → bindArgs (PySem.W.fnOf x x (defArgs st) (defBody st) (defScope st) .none kV doc pm an cdv ct) ⟨us, []⟩ = pure (ps.zip us))
    (hl : ∀ os M o M', R os M o M' → os.length = ps.length) (body : ∀ os M o M', R os M o M' → M.length ≤ M'.length ∧ LowO M'.length o ∧ LowM M'.length M' ∧ ∃ J, SB (mkC g N st k) (defBody st) (pad N os) M (.rt o (M' ++ J))) : FN g x (k + 1) R := by
  obtain ⟨f, fd, F, hm⟩ := T.fn
  refine ⟨f, fd, ps, F.ok (N := N) S (fun vs H Q E h => ?_) (fun cdv A outer s H vs Q E hr h => ?_), hm, F.kp, F.binds hb⟩
  · obtain ⟨I, adr, os, M, o, M', r, _, _, v, _⟩ := h
    rw [← v.length]
    exact hl _ _ _ _ r
  · obtain ⟨I, adr, os, M, o, M', r, ex, sto, v, q⟩ := h
    obtain ⟨hlen, lo, lm, J, hB⟩ := body os M o M' r
    refine ⟨UB (mkC g N st k) (defBody st), ub ⟨rfl, rfl, rfl, rfl, rfl, rfl, rfl, rfl, hr, PassesOwn.never, takes0, fun _ _ => rfl, fun _ _ z => (by cases z), ⟨_, _, rfl, S.gen, S.co, rfl, rfl⟩⟩ _, ?_⟩
    refine hB I H adr (L2.start N vs) _ ⟨ex, sto, ?_, fun i p ov h1 h2 => ?_⟩ fun w I' H' adr' s' g' v' => ?_
    · unfold pad L2.start
      rw [List.length_append, List.length_append, List.length_map, List.length_replicate, List.length_replicate, v.length]
    · unfold pad at h1
      unfold L2.start at h2
      by_cases hi : i < os.length
      · rw [List.getElem?_append_left hi] at h1
        obtain ⟨w, e1, e2⟩ := v.get h1
        rw [List.getElem?_append_left (by rw [List.length_map, ← v.length]; exact hi), List.getElem?_map, e1] at h2
        cases h2
        exact e2
      · rw [List.getElem?_append_right (Nat.le_of_not_lt hi)] at h1
        have hp : p = .no := List.eq_of_mem_replicate (List.mem_of_getElem? h1)
        subst hp
        cases ov with
        | none => rfl
        | some w => exact True.intro
    · obtain ⟨nw, rfl, fr⟩ := g'.new
      have l1 := s'.sto.len
      have l2 := sto.len
      rw [List.length_append, List.length_append] at l1
      have ht : (adr ++ nw).take M'.length = adr ++ nw.take (M'.length - adr.length) := by
        rw [List.take_append, List.take_of_length_le (by omega)]
      have sub : ∀ (k : Nat) (a : Addr), ((adr ++ nw).take M'.length)[k]? = some a → (adr ++ nw)[k]? = some a := fun k a h => by
        rw [List.getElem?_take] at h
        split at h
        · exact h
        · cases h
      refine q w I' H' ((adr ++ nw).take M'.length) s'.ex ⟨?_, s'.sto.nd.sublist (List.take_sublist _ _), fun k a ps h1 h2 => ?_, fun k a h1 => s'.sto.dom k a (sub k a h1), s'.sto.amb⟩ ⟨g'.ex, ⟨_, ht, fun p hp => fr p (List.take_subset _ _ hp)⟩, g'.keep, g'.dom, g'.out, g'.code⟩ (vo_take lo v')
      · rw [List.length_take, List.length_append]
        omega
      · have hk : k < M'.length := (List.getElem?_eq_some_iff.mp h2).1
        obtain ⟨c1, xs, c2, c3⟩ := s'.sto.cell k a ps (sub k a h1) (by rw [List.getElem?_append_left hk]; exact h2)
        exact ⟨c1, xs, c2, vs_take (lm k ps h2) c3⟩
theorem FN.mkNx {g : Pg} {x : Str} {st : Stmt} {N ps : List Str} {k : Nat} {R : Rel} (T : TxtF g x st) (S : FnScope N ps (defScope st))
    (hb : ∀ (kV doc pm : Value) (an : Option Addr) (cdv ct : Value) (us : List Value), us.length = ps.length → bindArgs (PySem.W.fnOf x x (defArgs st) (defBody st) (defScope st) .none kV doc pm an cdv ct) ⟨us, []⟩ = pure (ps.zip us))
    (hl : ∀ os M o M', R os M o M' → os.length = ps.length) (body : ∀ os M o M', R os M o M' → o = .dat .non ∧ ∃ E', SB (mkC g N st k) (defBody st) (pad N os) M (.nx E' M')) : FN g x (k + 1) R := by
  obtain ⟨f, fd, F, hm⟩ := T.fn
  refine ⟨f, fd, ps, F.ok (N := N) S (fun vs H Q E h => ?_) (fun cdv A outer s H vs Q E hr h => ?_), hm, F.kp, F.binds hb⟩
  · obtain ⟨I, adr, os, M, o, M', r, _, _, v, _⟩ := h
    rw [← v.length]
    exact hl _ _ _ _ r
  · obtain ⟨I, adr, os, M, o, M', r, ex, sto, v, q⟩ := h
    obtain ⟨rfl, E', hB⟩ := body os M o M' r
    refine ⟨UB (mkC g N st k) (defBody st), ub ⟨rfl, rfl, rfl, rfl, rfl, rfl, rfl, rfl, hr, PassesOwn.never, takes0, fun _ _ => rfl, fun _ _ z => (by cases z), ⟨_, _, rfl, S.gen, S.co, rfl, rfl⟩⟩ _, ?_⟩
    refine hB I H adr (L2.start N vs) _ ⟨ex, sto, ?_, fun i p ov h1 h2 => ?_⟩ fun I' H' adr' σ' s' g' => q .non I' H' adr' s'.ex s'.sto g' .non
    · unfold pad L2.start
      rw [List.length_append, List.length_append, List.length_map, List.length_replicate, List.length_replicate, v.length]
    · unfold pad at h1
      unfold L2.start at h2
      by_cases hi : i < os.length
      · rw [List.getElem?_append_left hi] at h1
        obtain ⟨w, e1, e2⟩ := v.get h1
        rw [List.getElem?_append_left (by rw [List.length_map, ← v.length]; exact hi), List.getElem?_map, e1] at h2
        cases h2
        exact e2
      · rw [List.getElem?_append_right (Nat.le_of_not_lt hi)] at h1
        have hp : p = .no := List.eq_of_mem_replicate (List.mem_of_getElem? h1)
        subst hp
        cases ov with
        | none => rfl
        | some w => exact True.intro
end
end Ab
/-! Ab: kinds of data, rows and tables. -/
namespace Ab
open PySem PySem.Spec PyProof.Rows L2
variable [TabCtx]

def D.isInt : D → Bool
  | .int _ => true
  | .bl _ => true
  | _ => false
def D.isBl : D → Bool
  | .bl _ => true
  | _ => false
def D.isStr : D → Bool
  | .str _ => true
  | _ => false
def D.isTup : D → Bool
  | .tup _ => true
  | _ => false
def D.isLst : D → Bool
  | .lst _ => true
  | _ => false
def D.isNum : D → Bool
  | .int _ => true
  | _ => false
theorem kit_int : ∀ {d : D}, kitB d.ty "int" = some d.isInt
  | .non => (by decide +kernel : kitB "NoneType" "int" = some false)
  | .bl _ => (by decide +kernel : kitB "bool" "int" = some true)
  | .int _ => (by decide +kernel : kitB "int" "int" = some true)
  | .str _ => (by decide +kernel : kitB "str" "int" = some false)
  | .tup _ => (by decide +kernel : kitB "tuple" "int" = some false)
  | .lst _ => (by decide +kernel : kitB "list" "int" = some false)
  | .dct _ _ => (by decide +kernel : kitB "dict" "int" = some false)
theorem kit_bool : ∀ {d : D}, kitB d.ty "bool" = some d.isBl
  | .non => (by decide +kernel : kitB "NoneType" "bool" = some false)
  | .bl _ => (by decide +kernel : kitB "bool" "bool" = some true)
  | .int _ => (by decide +kernel : kitB "int" "bool" = some false)
  | .str _ => (by decide +kernel : kitB "str" "bool" = some false)
  | .tup _ => (by decide +kernel : kitB "tuple" "bool" = some false)
  | .lst _ => (by decide +kernel : kitB "list" "bool" = some false)
  | .dct _ _ => (by decide +kernel : kitB "dict" "bool" = some false)
theorem kit_str : ∀ {d : D}, kitB d.ty "str" = some d.isStr
  | .non => (by decide +kernel : kitB "NoneType" "str" = some false)
  | .bl _ => (by decide +kernel : kitB "bool" "str" = some false)
  | .int _ => (by decide +kernel : kitB "int" "str" = some false)
  | .str _ => (by decide +kernel : kitB "str" "str" = some true)
  | .tup _ => (by decide +kernel : kitB "tuple" "str" = some false)
  | .lst _ => (by decide +kernel : kitB "list" "str" = some false)
  | .dct _ _ => (by decide +kernel : kitB "dict" "str" = some false)
theorem kit_tuple : ∀ {d : D}, kitB d.ty "tuple" = some d.isTup
  | .non => (by decide +kernel : kitB "NoneType" "tuple" = some false)
  | .bl _ => (by decide +kernel : kitB "bool" "tuple" = some false)
  | .int _ => (by decide +kernel : kitB "int" "tuple" = some false)
  | .str _ => (by decide +kernel : kitB "str" "tuple" = some false)
  | .tup _ => (by decide +kernel : kitB "tuple" "tuple" = some true)
  | .lst _ => (by decide +kernel : kitB "list" "tuple" = some false)
  | .dct _ _ => (by decide +kernel : kitB "dict" "tuple" = some false)
theorem kit_list : ∀ {d : D}, kitB d.ty "list" = some d.isLst
  | .non => (by decide +kernel : kitB "NoneType" "list" = some false)
  | .bl _ => (by decide +kernel : kitB "bool" "list" = some false)
  | .int _ => (by decide +kernel : kitB "int" "list" = some false)
  | .str _ => (by decide +kernel : kitB "str" "list" = some false)
  | .tup _ => (by decide +kernel : kitB "tuple" "list" = some false)
  | .lst _ => (by decide +kernel : kitB "list" "list" = some true)
  | .dct _ _ => (by decide +kernel : kitB "dict" "list" = some false)
section
variable {C : Cc} {E : List O} {M M1 M2 M' : Mem} {o : O} {a b : Expr} {pos p pt : Pos} {d : D} {x T : Str} {i j : Int} {k : Bool}
theorem EV.isInt (h : EV C a E M (.dat d) M') (hm : Bt C.g "isinstance") (hT : Bt C.g "int") (hx : x = "isinstance" := by rfl) (hy : T = "int" := by rfl) (hg : C.sc.names.lookup x = some .globalImplicit := by rfl) (hgT : C.sc.names.lookup T = some .globalImplicit := by rfl) (hs : ∀ env, starEach [a, .Name T pt] env = (false, eval a env) :: starEach [.Name T pt] env := by intro _; rfl) : EV C (.Call (.Name x p) [a, .Name T pt] [] pos) E M (.dat (.bl d.isInt)) M' := by
  subst hx hy; exact EV.isi h hm hT bv_int kit_int rfl hg hgT (by decide) (by decide) (by decide) (by decide) hs
theorem EV.isBool (h : EV C a E M (.dat d) M') (hm : Bt C.g "isinstance") (hT : Bt C.g "bool") (hx : x = "isinstance" := by rfl) (hy : T = "bool" := by rfl) (hg : C.sc.names.lookup x = some .globalImplicit := by rfl) (hgT : C.sc.names.lookup T = some .globalImplicit := by rfl) (hs : ∀ env, starEach [a, .Name T pt] env = (false, eval a env) :: starEach [.Name T pt] env := by intro _; rfl) : EV C (.Call (.Name x p) [a, .Name T pt] [] pos) E M (.dat (.bl d.isBl)) M' := by
  subst hx hy; exact EV.isi h hm hT bv_bool kit_bool rfl hg hgT (by decide) (by decide) (by decide) (by decide) hs
theorem EV.isStr (h : EV C a E M (.dat d) M') (hm : Bt C.g "isinstance") (hT : Bt C.g "str") (hx : x = "isinstance" := by rfl) (hy : T = "str" := by rfl) (hg : C.sc.names.lookup x = some .globalImplicit := by rfl) (hgT : C.sc.names.lookup T = some .globalImplicit := by rfl) (hs : ∀ env, starEach [a, .Name T pt] env = (false, eval a env) :: starEach [.Name T pt] env := by intro _; rfl) : EV C (.Call (.Name x p) [a, .Name T pt] [] pos) E M (.dat (.bl d.isStr)) M' := by
  subst hx hy; exact EV.isi h hm hT bv_str kit_str rfl hg hgT (by decide) (by decide) (by decide) (by decide) hs
theorem EV.isTuple (h : EV C a E M (.dat d) M') (hm : Bt C.g "isinstance") (hT : Bt C.g "tuple") (hx : x = "isinstance" := by rfl) (hy : T = "tuple" := by rfl) (hg : C.sc.names.lookup x = some .globalImplicit := by rfl) (hgT : C.sc.names.lookup T = some .globalImplicit := by rfl) (hs : ∀ env, starEach [a, .Name T pt] env = (false, eval a env) :: starEach [.Name T pt] env := by intro _; rfl) : EV C (.Call (.Name x p) [a, .Name T pt] [] pos) E M (.dat (.bl d.isTup)) M' := by
  subst hx hy; exact EV.isi h hm hT bv_tuple kit_tuple rfl hg hgT (by decide) (by decide) (by decide) (by decide) hs
theorem EV.isList (h : EV C a E M (.dat d) M') (hm : Bt C.g "isinstance") (hT : Bt C.g "list") (hx : x = "isinstance" := by rfl) (hy : T = "list" := by rfl) (hg : C.sc.names.lookup x = some .globalImplicit := by rfl) (hgT : C.sc.names.lookup T = some .globalImplicit := by rfl) (hs : ∀ env, starEach [a, .Name T pt] env = (false, eval a env) :: starEach [.Name T pt] env := by intro _; rfl) : EV C (.Call (.Name x p) [a, .Name T pt] [] pos) E M (.dat (.bl d.isLst)) M' := by
  subst hx hy; exact EV.isi h hm hT bv_list kit_list rfl hg hgT (by decide) (by decide) (by decide) (by decide) hs
end
/-- built-in names that stand -/
structure Bs (g : Pg) : Prop where
  len : Bt g "len"
  sum : Bt g "sum"
  all : Bt g "all"
  any : Bt g "any"
  abs : Bt g "abs"
  min : Bt g "min"
  max : Bt g "max"
  int : Bt g "int"
  bool : Bt g "bool"
  str : Bt g "str"
  tuple : Bt g "tuple"
  list : Bt g "list"
  range : Bt g "range"
  zip : Bt g "zip"
  enumerate : Bt g "enumerate"
  isinstance : Bt g "isinstance"
  reversed : Bt g "reversed"
  sorted : Bt g "sorted"

/-! ### relations -/
def P1 (F : D → D → Prop) : Rel := fun os M o M' => ∃ d r, os = [.dat d] ∧ M = [] ∧ o = .dat r ∧ M' = [] ∧ F d r
def P2 (F : D → D → D → Prop) : Rel := fun os M o M' => ∃ d e r, os = [.dat d, .dat e] ∧ M = [] ∧ o = .dat r ∧ M' = [] ∧ F d e r
def P3 (F : D → D → D → D → Prop) : Rel := fun os M o M' => ∃ d e f r, os = [.dat d, .dat e, .dat f] ∧ M = [] ∧ o = .dat r ∧ M' = [] ∧ F d e f r
section
variable {C : Cc} {E : List O} {M M1 M2 M3 M' : Mem} {a b c : Expr} {pos p : Pos} {d e f r : D} {x : Str} {k : Nat}
theorem FN.mk1 {g : Pg} {st : Stmt} {N : List Str} {y : Str} {F : D → D → Prop} (T : TxtF g x st) (S : FnScope N [y] (defScope st))
    (hb : ∀ (kV doc pm : Value) (an : Option Addr) (cdv ct : Value) (us : List Value), us.length = 1 → bindArgs (PySem.W.fnOf x x (defArgs st) (defBody st) (defScope st) .none kV doc pm an cdv ct) ⟨us, []⟩ = pure ([y].zip us))
    (body : ∀ d r, F d r → SB (mkC g N st k) (defBody st) (pad N [.dat d]) [] (.rt (.dat r) [])) : FN g x (k + 1) (P1 F) :=
  FN.mk T S hb (fun os M o M' h => by obtain ⟨d, r, rfl, _⟩ := h; rfl) (fun os M o M' h => by obtain ⟨d, r, rfl, rfl, rfl, rfl, h⟩ := h; exact body d r h)
theorem FN.mk2 {g : Pg} {st : Stmt} {N : List Str} {y z : Str} {F : D → D → D → Prop} (T : TxtF g x st) (S : FnScope N [y, z] (defScope st))
    (hb : ∀ (kV doc pm : Value) (an : Option Addr) (cdv ct : Value) (us : List Value), us.length = 2 → bindArgs (PySem.W.fnOf x x (defArgs st) (defBody st) (defScope st) .none kV doc pm an cdv ct) ⟨us, []⟩ = pure ([y, z].zip us))
    (body : ∀ d e r, F d e r → SB (mkC g N st k) (defBody st) (pad N [.dat d, .dat e]) [] (.rt (.dat r) [])) : FN g x (k + 1) (P2 F) :=
  FN.mk T S hb (fun os M o M' h => by obtain ⟨d, e, r, rfl, _⟩ := h; rfl) (fun os M o M' h => by obtain ⟨d, e, r, rfl, rfl, rfl, rfl, h⟩ := h; exact body d e r h)
theorem FN.mk3 {g : Pg} {st : Stmt} {N : List Str} {y z u : Str} {F : D → D → D → D → Prop} (T : TxtF g x st) (S : FnScope N [y, z, u] (defScope st))
    (hb : ∀ (kV doc pm : Value) (an : Option Addr) (cdv ct : Value) (us : List Value), us.length = 3 → bindArgs (PySem.W.fnOf x x (defArgs st) (defBody st) (defScope st) .none kV doc pm an cdv ct) ⟨us, []⟩ = pure ([y, z, u].zip us))
    (body : ∀ d e f r, F d e f r → SB (mkC g N st k) (defBody st) (pad N [.dat d, .dat e, .dat f]) [] (.rt (.dat r) [])) : FN g x (k + 1) (P3 F) :=
  FN.mk T S hb (fun os M o M' h => by obtain ⟨d, e, f, r, rfl, _⟩ := h; rfl) (fun os M o M' h => by obtain ⟨d, e, f, r, rfl, rfl, rfl, rfl, h⟩ := h; exact body d e f r h)
theorem EV.c1 {F : D → D → Prop} (H : FN C.g x k (P1 F)) (ha : EV C a E M (.dat d) M') (hF : F d r) (hk : Nat.ble k C.k = true := by rfl) (hg : C.sc.names.lookup x = some .globalImplicit := by rfl) (hdb : (x == ("__debug__" : Str)) = false := by decide) (he : ∀ env, starEach [a] env = (false, eval a env) :: starEach [] env := by intro _; rfl) : EV C (.Call (.Name x p) [a] [] pos) E M (.dat r) M' :=
  EV.call (ds := [d]) H (EA.cons ha EA.nil he) ⟨d, r, rfl, rfl, rfl, rfl, hF⟩ hk hg hdb he (fun _ => rfl)
theorem EV.c2 {F : D → D → D → Prop} (H : FN C.g x k (P2 F)) (ha : EV C a E M (.dat d) M1) (hb : EV C b E M1 (.dat e) M') (hF : F d e r) (hk : Nat.ble k C.k = true := by rfl) (hg : C.sc.names.lookup x = some .globalImplicit := by rfl) (hdb : (x == ("__debug__" : Str)) = false := by decide)
    (he : ∀ env, starEach [a, b] env = (false, eval a env) :: starEach [b] env := by intro _; rfl) (he2 : ∀ env, starEach [b] env = (false, eval b env) :: starEach [] env := by intro _; rfl) (hpl : ∀ env, (backTo pos (starEach [b] env)).any (·.1) = false := by intro _; rfl) : EV C (.Call (.Name x p) [a, b] [] pos) E M (.dat r) M' :=
  EV.call (ds := [d, e]) H (EA.cons ha (EA.cons hb EA.nil he2) he) ⟨d, e, r, rfl, rfl, rfl, rfl, hF⟩ hk hg hdb he hpl
theorem EV.c3 {F : D → D → D → D → Prop} (H : FN C.g x k (P3 F)) (ha : EV C a E M (.dat d) M1) (hb : EV C b E M1 (.dat e) M2) (hc : EV C c E M2 (.dat f) M') (hF : F d e f r) (hk : Nat.ble k C.k = true := by rfl) (hg : C.sc.names.lookup x = some .globalImplicit := by rfl) (hdb : (x == ("__debug__" : Str)) = false := by decide)
    (he : ∀ env, starEach [a, b, c] env = (false, eval a env) :: starEach [b, c] env := by intro _; rfl) (he2 : ∀ env, starEach [b, c] env = (false, eval b env) :: starEach [c] env := by intro _; rfl) (he3 : ∀ env, starEach [c] env = (false, eval c env) :: starEach [] env := by intro _; rfl) (hpl : ∀ env, (backTo pos (starEach [b, c] env)).any (·.1) = false := by intro _; rfl) : EV C (.Call (.Name x p) [a, b, c] [] pos) E M (.dat r) M' :=
  EV.call (ds := [d, e, f]) H (EA.cons ha (EA.cons hb (EA.cons hc EA.nil he3) he2) he) ⟨d, e, f, r, rfl, rfl, rfl, rfl, hF⟩ hk hg hdb he hpl
end

/-- a def that falls through -/
theorem FN.mkN1 {g : Pg} {st : Stmt} {N : List Str} {y x : Str} {k : Nat} {F : D → D → Prop} (T : TxtF g x st) (S : FnScope N [y] (defScope st))
    (hb : ∀ (kV doc pm : Value) (an : Option Addr) (cdv ct : Value) (us : List Value), us.length = 1 → bindArgs (PySem.W.fnOf x x (defArgs st) (defBody st) (defScope st) .none kV doc pm an cdv ct) ⟨us, []⟩ = pure ([y].zip us))
    (body : ∀ d r, F d r → r = .non ∧ ∃ E', SB (mkC g N st k) (defBody st) (pad N [.dat d]) [] (.nx E' [])) : FN g x (k + 1) (P1 F) := FN.mkNx T S hb (fun os M o M' h => by obtain ⟨d, r, rfl, _⟩ := h; rfl) (fun os M o M' h => by
  obtain ⟨d, r, rfl, rfl, rfl, rfl, h⟩ := h
  obtain ⟨e1, h1⟩ := body d r h
  exact ⟨congrArg O.dat e1, h1⟩)
theorem FN.mkN3 {g : Pg} {st : Stmt} {N : List Str} {y z u x : Str} {k : Nat} {F : D → D → D → D → Prop} (T : TxtF g x st) (S : FnScope N [y, z, u] (defScope st))
    (hb : ∀ (kV doc pm : Value) (an : Option Addr) (cdv ct : Value) (us : List Value), us.length = 3 → bindArgs (PySem.W.fnOf x x (defArgs st) (defBody st) (defScope st) .none kV doc pm an cdv ct) ⟨us, []⟩ = pure ([y, z, u].zip us))
    (body : ∀ d e f r, F d e f r → r = .non ∧ ∃ E', SB (mkC g N st k) (defBody st) (pad N [.dat d, .dat e, .dat f]) [] (.nx E' [])) : FN g x (k + 1) (P3 F) := FN.mkNx T S hb (fun os M o M' h => by obtain ⟨d, e, f, r, rfl, _⟩ := h; rfl) (fun os M o M' h => by
  obtain ⟨d, e, f, r, rfl, rfl, rfl, rfl, h⟩ := h
  obtain ⟨e1, h1⟩ := body d e f r h
  exact ⟨congrArg O.dat e1, h1⟩)

/-! ### rows and tables -/
abbrev tV (v : List Int) : D := .tup (v.map .int)
abbrev tM (m : List (List Int)) : D := .tup (m.map tV)
abbrev lV (v : List Int) : D := .lst (v.map .int)
abbrev lM (m : List (List Int)) : D := .lst (m.map lV)
end Ab
/-! Ab: cells lent to be read; the script; members. -/
namespace Ab
open PySem PySem.Spec PyProof.Rows L2
variable [TabCtx]

/-! ### a cell seen as data -/
mutual
inductive View (M : Mem) : O → D → Prop
  | dat (d : D) : View M (.dat d) d
  | cel {k : Nat} {os : List O} {ds : List D} (h : M[k]? = some (some os)) (r : Views M os ds) : View M (.adr k) (.lst ds)
inductive Views (M : Mem) : List O → List D → Prop
  | nil : Views M [] []
  | cons {o : O} {os : List O} {d : D} {ds : List D} (h : View M o d) (r : Views M os ds) : Views M (o :: os) (d :: ds)
end
mutual
inductive NoL : D → Prop
  | non : NoL .non
  | bl (b : Bool) : NoL (.bl b)
  | int (i : Int) : NoL (.int i)
  | str (s : Str) : NoL (.str s)
  | tup {ds : List D} (h : NoLs ds) : NoL (.tup ds)
inductive NoLs : List D → Prop
  | nil : NoLs []
  | cons {d : D} {ds : List D} (h : NoL d) (r : NoLs ds) : NoLs (d :: ds)
end
theorem NoLs.all : ∀ {ds : List D}, (∀ d ∈ ds, NoL d) → NoLs ds
  | [], _ => .nil
  | _ :: _, h => .cons (h _ List.mem_cons_self) (NoLs.all fun d hd => h d (List.mem_cons_of_mem _ hd))
theorem NoL.ints (v : List Int) : NoL (tV v) := .tup (NoLs.all fun d hd => by
  obtain ⟨i, _, rfl⟩ := List.mem_map.mp hd
  exact .int i)
theorem NoL.mat (m : List (List Int)) : NoL (tM m) := .tup (NoLs.all fun d hd => by
  obtain ⟨i, _, rfl⟩ := List.mem_map.mp hd
  exact NoL.ints i)
theorem Views.ints {M : Mem} : ∀ v : List D, Views M (v.map .dat) v
  | [] => .nil
  | _ :: v => .cons (.dat _) (Views.ints v)
mutual
theorem rep_back {I I' : Hp} (f : ∀ a xs, I a = some (.tup xs) → I' a = some (.tup xs)) : ∀ {d : D} {v : V}, NoL d → Rep I d v → Rep I' d v
  | _, _, .non, .non => .non
  | _, _, .bl _, .bl b => .bl b
  | _, _, .int _, .int i => .int i
  | _, _, .str _, .str s => .str s
  | _, _, .tup n, .tup h r => .tup (f _ _ h) (reps_back f n r)
theorem reps_back {I I' : Hp} (f : ∀ a xs, I a = some (.tup xs) → I' a = some (.tup xs)) : ∀ {ds : List D} {vs : List V}, NoLs ds → Reps I ds vs → Reps I' ds vs
  | _, _, .nil, .nil => .nil
  | _, _, .cons n m, .cons h r => .cons (rep_back f n h) (reps_back f m r)
end
mutual
theorem view_rep {I I' H : Hp} {adr : List Addr} {M : Mem} (s : Sto I H adr M) (e : Ex I I') (f : ∀ (k : Nat) (a : Addr) (os : List O), adr[k]? = some a → M[k]? = some (some os) → I' a = H a) : ∀ {o : O} {d : D} {v : V}, View M o d → Vo I adr o v → Rep I' d v
  | _, _, _, .dat d, h => Rep.mono e h
  | _, _, _, .cel (k := k) hm r, h => by
    obtain ⟨a, h1, rfl⟩ := h
    obtain ⟨_, xs, h2, h3⟩ := s.cell k a _ h1 hm
    exact .lst ((f k a _ h1 hm).trans h2) (views_rep s e f r h3)
theorem views_rep {I I' H : Hp} {adr : List Addr} {M : Mem} (s : Sto I H adr M) (e : Ex I I') (f : ∀ (k : Nat) (a : Addr) (os : List O), adr[k]? = some a → M[k]? = some (some os) → I' a = H a) : ∀ {os : List O} {ds : List D} {vs : List V}, Views M os ds → Vs I adr os vs → Reps I' ds vs
  | _, _, _, .nil, .nil => .nil
  | _, _, _, .cons h r, .cons q w => .cons (view_rep s e f h q) (views_rep s e f r w)
end
open Classical in
theorem ev_lend {R : Rel} {E : List O} {M M1 : Mem} {os : List O} {ds : List D} {d : D} {ta : TA} {E' : XK} (ha : Ea ta E M os M1) (hv : Views M1 os ds) (hR : R (ds.map .dat) [] (.dat d) []) (hn : NoL d) :
    Ev (tCall (spR R) [] E' ta) E M (.dat d) M1 := fun I H adr σ Q s q => ha I H adr σ _ s fun vs I1 H1 adr1 s1 g1 v1 => by
  let L : Addr → Prop := fun p => ∃ (k : Nat) (os : List O), adr1[k]? = some p ∧ M1[k]? = some (some os)
  let J : Hp := fun p => if L p then H1 p else I1 p
  have eJ : Ex I1 J := fun p o h => by
    show (if L p then H1 p else I1 p) = some o
    split
    · exact s1.ex p o h
    · exact h
  have eH : Ex J H1 := fun p o h => by
    have h' : (if L p then H1 p else I1 p) = some o := h
    split at h'
    · exact h'
    · exact s1.ex p o h'
  have fJ : ∀ (k : Nat) (a : Addr) (os : List O), adr1[k]? = some a → M1[k]? = some (some os) → J a = H1 a := fun k a os h1 h2 => if_pos ⟨k, os, h1, h2⟩
  have aJ : ∀ b u, J b = some u → NT u := fun b u h => by
    have h' : (if L b then H1 b else I1 b) = some u := h
    split at h'
    · rename_i hl
      obtain ⟨k, os, h1, h2⟩ := hl
      obtain ⟨_, xs, h4, _⟩ := s1.sto.cell k b os h1 h2
      rw [h4] at h'
      cases h'
      exact NT.lst
    · exact s1.sto.amb.nt b u h'
  show spR R (vs ++ []) H1 Q E'
  rw [List.append_nil]
  refine ⟨J, [], ds.map .dat, [], .dat d, [], hR, eH, ⟨rfl, List.nodup_nil, fun k a os h1 _ => by simp at h1, fun k a h1 => by simp at h1, s1.sto.amb.same aJ⟩, Vs.reps (views_rep s1.sto eJ fJ hv v1), fun z I2 H2 adr2 ex2 sto2 g2 v2 => ?_⟩
  let I3 : Hp := fun p => if L p then none else I2 p
  have nI : ∀ p, L p → I1 p = none := fun p hp => by
    obtain ⟨k, os, h1, h2⟩ := hp
    exact (s1.sto.cell k p os h1 h2).1
  have e3 : Ex I1 I3 := fun p o h => by
    have hp : ¬ L p := fun hl => by rw [nI p hl] at h; cases h
    show (if L p then none else I2 p) = some o
    rw [if_neg hp]
    exact g2.ex p o (eJ p o h)
  have e3H : Ex I3 H2 := fun p o h => by
    have h' : (if L p then none else I2 p) = some o := h
    split at h'
    · cases h'
    · exact ex2 p o h'
  have keep : ∀ p u, H1 p = some u → NT u → H2 p = some u := fun p u h n => g2.keep p u h n (by simp)
  have g3 : Grow I1 H1 adr1 I3 H2 adr1 := ⟨e3, ⟨[], by simp, by simp⟩, fun p u h n _ => keep p u h n, g2.dom, fun p u h n h2 h3 => by
    have hp : ¬ L p := fun hl => by
      obtain ⟨k, os, h4, _⟩ := hl
      exact h3 (List.mem_of_getElem? h4)
    show (if L p then none else I2 p) = none
    rw [if_neg hp]
    exact g2.out p u h n (by show (if L p then H1 p else I1 p) = none; rw [if_neg hp]; exact h2) (by simp), g2.code⟩
  have t3 : Sto I3 H2 adr1 M1 := ⟨s1.sto.len, s1.sto.nd, fun k a os h1 h2 => by
    obtain ⟨_, xs, h4, h5⟩ := s1.sto.cell k a os h1 h2
    exact ⟨if_pos ⟨k, os, h1, h2⟩, xs, keep a _ h4 NT.lst, h5.ext e3⟩, fun k a h => by
    obtain ⟨u, hu, n⟩ := s1.sto.dom k a h
    exact ⟨u, keep a u hu n, n⟩, sto2.amb.same fun b u h => by
    have h' : (if L b then none else I2 b) = some u := h
    split at h'
    · cases h'
    · exact sto2.amb.nt b u h'⟩
  refine q z I3 H2 adr1 (s1.mono g3 e3H t3) (g1.trans g3) (rep_back (fun a xs h => ?_) hn v2)
  have hp : ¬ L a := fun hl => by
    obtain ⟨k, os, h1, h2⟩ := hl
    obtain ⟨_, ys, h4, _⟩ := s1.sto.cell k a os h1 h2
    have h5 := g2.ex a _ ((fJ k a os h1 h2).trans h4)
    rw [h] at h5
    cases h5
  show (if L a then none else I2 a) = _
  rw [if_neg hp]
  exact h
section
variable {C : Cc} {E E1 E2 E' : List O} {M M1 M2 M3 M' : Mem} {o o1 o2 o3 : O} {os : List O} {e a b c : Expr} {es : List Expr} {pos pos' p p2 pos2 : Pos} {d d1 d2 : D} {i j : Int} {n : Nat} {k k' : Bool} {r : Out} {body : List Stmt} {x y : Str} {ds : List D}
theorem EV.lend {R : Rel} {kf : Nat} {ds : List D} (F : FN C.g x kf R) (ha : EA C (e :: es) E M os M1) (hv : Views M1 os ds) (hR : R (ds.map .dat) [] (.dat d) []) (hn : NoL d) (hk : Nat.ble kf C.k = true := by rfl)
    (hg : C.sc.names.lookup x = some .globalImplicit := by rfl) (hdb : (x == ("__debug__" : Str)) = false := by decide) (he : ∀ env, starEach (e :: es) env = (false, eval e env) :: starEach es env := by intro _; rfl) (hpl : ∀ env, (backTo pos (starEach es env)).any (·.1) = false := by intro _; rfl) :
    EV C (.Call (.Name x p) (e :: es) [] pos) E M (.dat d) M1 := by
  obtain ⟨f, fd, ps, F, hm, hkp, hb⟩ := F
  refine EV.mk (t := tCall (spR R) [] E0 (UA C (e :: es))) (fun X hX => ?_) (ev_lend ha hv hR hn)
  refine pe_call (k := kf) (f := f) (fd := fd) (ps := ps) (by rw [hX.P, hX.w, hX.K, hX.mg, hX.base]; exact F) (hX.room.mono (Nat.le_of_ble_eq_true hk)) (by show X.env.scope.names.lookup x = _; rw [hX.sc]; exact hg) (by rw [hX.mg]; exact hm) (by rw [hX.K]; exact hkp) (by rw [hX.K]; exact hb) .nil pass0 (ua hX _) hdb (he X.env) (hpl X.env)
/-- a def that makes cells -/
theorem EV.callM {R : Rel} {kf : Nat} {ds : List D} {o0 : O} {M0' : Mem} (F : FN C.g x kf R) (ha : EA C (e :: es) E M (ds.map .dat) M1) (hR : R (ds.map .dat) [] o0 M0') (hq : o = o0.ren (fun k => M1.length + k)) (hM : M2 = M1 ++ M0'.map fun c => c.map fun ps => ps.map (·.ren fun k => M1.length + k)) (hk : Nat.ble kf C.k = true := by rfl)
    (hg : C.sc.names.lookup x = some .globalImplicit := by rfl) (hdb : (x == ("__debug__" : Str)) = false := by decide) (he : ∀ env, starEach (e :: es) env = (false, eval e env) :: starEach es env := by intro _; rfl) (hpl : ∀ env, (backTo pos (starEach es env)).any (·.1) = false := by intro _; rfl) :
    EV C (.Call (.Name x p) (e :: es) [] pos) E M o M2 := by
  have er : rho [] M1.length = fun k => M1.length + k := by
    funext k
    show M1.length + (k - 0) = _
    rw [Nat.sub_zero]
  subst hq hM
  rw [← er]
  refine EV.callG (ι := []) F ha hR (by rw [ren_dat]) ⟨rfl, List.nodup_nil, ?_, fun i k h => by simp at h, fun k os h => ?_⟩ hk hg hdb he hpl
  · rw [List.length_append, List.length_map]
    rfl
  · by_cases hk : k < M1.length
    · rw [List.getElem?_append_left hk] at h
      exact .inl ⟨by simp, h⟩
    · rw [List.getElem?_append_right (Nat.le_of_not_lt hk), List.getElem?_map] at h
      cases hc : M0'[k - M1.length]? with
      | none => rw [hc] at h; cases h
      | some c =>
        rw [hc] at h
        cases c with
        | none => cases h
        | some ps =>
          refine .inr ⟨k - M1.length, ps, ?_, .inr (Nat.zero_le _), hc, (Option.some.inj (Option.some.inj h)).symm⟩
          rw [er]
          show M1.length + (k - M1.length) = k
          omega

/-! ### the script -/
def Scr (K : PySem.W.Frag) (o : O) (xs : List V) : Prop := ∃ (a : Addr) (u : Option HO), o = .scr a u ∧ ∀ H : Hp, (∀ h, u = some h → H a = some h) → SqL K H a xs
theorem scr_sq {K : PySem.W.Frag} {xs : List V} {I H : Hp} {adr : List Addr} {v : V} (h : Scr K o xs) (hv : Vo I adr o v) (e : Ex I H) : ∃ a, v = .ref a ∧ SqL K H a xs := by
  obtain ⟨a, u, rfl, q⟩ := h
  exact ⟨a, hv.1, q H fun o' ho => e _ _ (hv.2 o' ho)⟩
theorem reps_ints {I : Hp} : ∀ ns : List Int, Reps I (ns.map D.int) (ns.map V.int)
  | [] => .nil
  | n :: ns => .cons (.int n) (reps_ints ns)
theorem EV.ixS {ns : List Int} (ha : EV C a E M o M1) (hb : EV C b E M1 (.dat (.int i)) M') (hs : Scr C.g.K o (ns.map V.int)) (h : atI (ns.map D.int) i = some d) (hp : PlainIx b := by exact fun _ _ => rfl) : EV C (.Subscript a b pos) E M (.dat d) M' :=
  EV.mk (t := tOp (rIx C.g.K) (UE C a) (UE C b)) (fun X hX => by
    have := pe_ix (pos := pos) ix_seq (ue hX a) (ue hX b) hp
    rw [hX.K] at this
    exact this) (ev_op ha hb fun I H adr σ E v w Q s hv hw q => by
      cases rep_int hw
      obtain ⟨p, rfl, hq⟩ := scr_sq hs hv s.ex
      obtain ⟨x, e1, e2⟩ := reps_atI (reps_ints (I := I) ns) h
      exact .inl ⟨p, _, i, x, rfl, rfl, hq, e1, q x I H adr s Grow.refl e2⟩)
theorem EV.slS {ns : List Int} {lo hi : Option Expr} {l u : Option Int} (ha : EV C a E M o M1) (hl : EO C lo E M1 l M2) (hh : EO C hi E M2 u M') (hs : Scr C.g.K o (ns.map V.int)) : EV C (.Subscript a (.Slice lo hi none p) pos) E M (.dat (.lst (cutD (ns.map D.int) l u))) M' :=
  EV.mk (t := tSl (rSlL C.g.K) (UE C a) (UO C lo) (UO C hi)) (fun X hX => by
    have := pe_slice (p2 := p) (pos := pos) (sl_list (X := X)) (ue hX a) (uo hX lo) (uo hX hi)
    rw [hX.K] at this
    exact this) fun I H adr σ Q s q => ha I H adr σ _ s fun v I1 H1 adr1 s1 g1 v1 => hl I1 H1 adr1 σ _ s1 fun I2 H2 adr2 s2 g2 => hh I2 H2 adr2 σ _ s2 fun I3 H3 adr3 s3 g3 => by
      obtain ⟨b, rfl, hq⟩ := scr_sq hs ((v1.mono g2).mono g3) s3.ex
      refine ⟨b, _, rfl, hq, fun p hp => ?_⟩
      obtain ⟨s4, g4, r4⟩ := s3.lst hp (reps_cut (reps_ints (I := I3) ns) l u)
      exact q _ _ _ _ s4 (((g1.trans g2).trans g3).trans g4) r4

/-! ### members -/
def inI (i : Int) (ns : List Int) : Bool := ns.any fun n => n == i
theorem inV_ints {i : Int} : ∀ ns : List Int, inV (.int i) (ns.map V.int) = inI i ns
  | [] => rfl
  | n :: ns => by
    show (eqV (.int n) (.int i) || inV (.int i) (ns.map V.int)) = (n == i || inI i ns)
    rw [inV_ints ns]
    rfl
theorem flat_ints (ns : List Int) : (ns.map V.int).all flatV = true := by
  rw [List.all_map, List.all_eq_true]
  intro x _
  rfl
theorem CS.inI {ns : List Int} : CS C .In (.dat (.int i)) (.dat (.lst (ns.map .int))) M (.dat (.bl (inI i ns))) M := ⟨rIn C.g.K false, fun X hX => by
  have := op_in_seq (X := X)
  rw [hX.K] at this
  exact this, fun I H adr σ E v w Q s hv hw q => by
  cases rep_int hv
  cases (show Rep I (.lst (ns.map .int)) w from hw) with
  | @lst p xs _ hp hr =>
    have e := reps_int hr
    subst e
    refine ⟨p, _, rfl, .inl (.inl (.inl (s.ex _ _ hp))), rfl, flat_ints ns, ?_⟩
    show Q (.bl (inV _ _)) H
    rw [inV_ints]
    exact q _ I H adr s Grow.refl (.bl _)⟩
theorem CS.notInI {ns : List Int} : CS C .NotIn (.dat (.int i)) (.dat (.lst (ns.map .int))) M (.dat (.bl (!Ab.inI i ns))) M := ⟨rIn C.g.K true, fun X hX => by
  have := op_notIn_seq (X := X)
  rw [hX.K] at this
  exact this, fun I H adr σ E v w Q s hv hw q => by
  cases rep_int hv
  cases (show Rep I (.lst (ns.map .int)) w from hw) with
  | @lst p xs _ hp hr =>
    have e := reps_int hr
    subst e
    refine ⟨p, _, rfl, .inl (.inl (.inl (s.ex _ _ hp))), rfl, flat_ints ns, ?_⟩
    show Q (.bl (!inV _ _)) H
    rw [inV_ints]
    exact q _ I H adr s Grow.refl (.bl _)⟩
end
end Ab
/-! Ab: enumerate over a tuple. -/
namespace Ab
open PySem PySem.Spec PyProof.Rows L2
variable [TabCtx]

theorem enum_new1 {v : Value} {ob : Obj} {Ho : Heap → Prop} (B : Begins v ob Ho) :
    Meets (Builtin.«enumerate.__new__» ⟨[.type "enumerate", v], []⟩) (fun _ R s => Ho s.heap ∧ R (.ok (.ret (.ref (s.heap.push ob).objs.size))) { s with heap := (s.heap.push ob).push { cls := .type "enumerate", data := .fields #[.none, .bool false, .ref s.heap.objs.size, rawInt 0, .none, .none] } }) :=
  .of_wp fun prog w A R s h => by
    obtain ⟨hp, gl, d, tk, os⟩ := s
    obtain ⟨h1, h⟩ := h
    have hsub := sub_enumerate
    have q1 : ∀ {A' : Around} {E' : Value → Shared → Prop} {Q' : Value → Shared → Prop}, Q' (.ref hp.objs.size) ⟨hp.push ob, gl, d, tk, os⟩ → wpAny (model prog w) A' (pyIter v) Q' E' ⟨hp, gl, d, tk, os⟩ := fun q => B.iter prog w _ _ ⟨hp, gl, d, tk, os⟩ _ h1 q
    wp_walk using q1
    refine wpAny_stack_any fun st => wpAny_pure ?_
    split
    · rename_i cc _ _ _ _ _
      cases (cc == Value.type "enumerate") <;> (wp_walk using q1; exact ⟨_, rfl, h⟩)
    · wp_walk using q1
      exact ⟨_, rfl, h⟩
section
variable {prog : Program} {w : World} {A : Around} {E : Value → Shared → Prop} {s : Shared}
theorem enum_call1 {v : Value} {ob : Obj} {Ho : Heap → Prop} {Q : Value → Shared → Prop} (B : Begins v ob Ho) (h1 : Ho s.heap)
    (h : ∀ h', IsEnum h' (s.heap.objs.size + 1) s.heap.objs.size 0 .none → h'.get? s.heap.objs.size = some ob → (∀ b o, s.heap.get? b = some o → h'.get? b = some o) → Q (.ref (s.heap.objs.size + 1)) { s with heap := h' }) : wpAny (model prog w) A (call (.type "enumerate") [v]) Q E s := by
  refine callType_new F.called_enumerate (by decide) (F.typeCall_enumerate_1 _) (F.newCall_enumerate_1 _) (fun obj => F.args_object_init_2 obj _) F.entry_enumerate_new (enum_new1 B) ⟨h1, ?_⟩
  have hz : (s.heap.push ob).objs.size = s.heap.objs.size + 1 := Heap.size_push ..
  show _ ∧ _
  rw [hz]
  have he : IsEnum ((s.heap.push ob).push { cls := .type "enumerate", data := .fields #[.none, .bool false, .ref s.heap.objs.size, rawInt 0, .none, .none] }) (s.heap.objs.size + 1) s.heap.objs.size 0 .none := by
    have z := Heap.get?_push_size (s.heap.push ob) (o := { cls := .type "enumerate", data := .fields #[.none, .bool false, .ref s.heap.objs.size, rawInt 0, .none, .none] }) rfl
    rw [hz] at z
    exact z
  exact ⟨⟨_, he, rfl⟩, h _ he (Heap.get?_push_of_some _ (Heap.get?_push_size _ B.free)) fun b o x => Heap.get?_push_of_some _ (Heap.get?_push_of_some _ x)⟩
end
def IteT (K : PySem.W.Frag) (a : Addr) : It :=
  ⟨fun i H => ∃ (xs : List V) (x : V), SqT K H a xs ∧ xs[i]? = some x, fun i H v H' => ∃ T x, v = .ref T ∧ H T = none ∧ H' = upd H T (.tup [.int (i : Nat), x]) ∧ ∀ xs, SqT K H a xs → xs[i]? = some x, fun i H => ∃ xs : List V, SqT K H a xs ∧ xs.length = i⟩
theorem apart_t {h : Heap} {a it : Addr} {i : Nat} {its : Array Value} (p : h.IsTuple a its) (q : h.IsTupleIter it a i) : a ≠ it := fun e => by
  subst e
  obtain ⟨o1, e1, c1, _⟩ := p
  obtain ⟨o2, e2, c2, _⟩ := q
  rw [e1] at e2
  cases e2
  rw [c1] at c2
  exact absurd c2 (by decide)
theorem apart_e {h : Heap} {a e it : Addr} {i : Int} {its : Array Value} {old : Value} (p : h.IsTuple a its) (q : IsEnum h e it i old) : e ≠ a := fun z => by
  subst z
  obtain ⟨o1, e1, c1, _⟩ := p
  have q' : h.get? e = some _ := q
  rw [e1] at q'
  cases q'
  exact absurd (show Value.type "enumerate" = Value.type "tuple" from c1) (by decide)
theorem turn_enumT {P : Program} {w : World} {K : PySem.W.Frag} {elts : List Expr} {kk : Nat} {tpos : Pos} (a e it : Addr) :
    Turn P w K (.Tuple elts kk tpos) (IteT K a) [e, it] e (fun i h => (∃ old, IsEnum h e it ((i : Nat) : Int) old) ∧ h.IsTupleIter it a i ∧ e ≠ it) where
  mem := by simp
  obj := fun i h st b hb => by
    obtain ⟨⟨old, he⟩, ⟨o, ho, hc, hd⟩, _⟩ := st
    rcases (show b = e ∨ b = it by simpa using hb) with z | z
    · subst z
      exact ⟨_, he, fun v q => nomatch q⟩
    · subst z
      exact ⟨o, ho, fun v q => by rw [hd] at q; cases q⟩
  keep := fun i h h' st k => let ⟨⟨old, he⟩, hi, hne⟩ := st; ⟨⟨old, k e (by simp) _ he⟩, hi.at fun o q => k it (by simp) o q, hne⟩
  item := by
    intro X hP hw hK hc i pins s σ H E I hf st hg
    subst hP hw hK
    obtain ⟨⟨old, he⟩, hit, hne⟩ := st
    obtain ⟨xs, x, hq, hx⟩ := hg
    obtain ⟨its, rv, p, hz⟩ := I.tuple hq
    obtain ⟨u, hu, ru⟩ := rv.get hx
    have pt : s.heap.IsTuple a its.toArray := p
    have hel : e < s.heap.objs.size := Heap.lt_size he
    have hil : it < s.heap.objs.size := by obtain ⟨_, q, _⟩ := hit; exact Heap.lt_size q
    have hlen : i < its.toArray.size := by
      have := (List.getElem?_eq_some_iff.mp hu).1
      simpa using this
    have D := Draws.tuple (prog := X.prog) (w := X.w) (A := X.A.in1) (I.ok.hd hc) it a (apart_t pt hit) its.toArray
    refine wpAny_pyNext_enum_itemC D he ⟨hit, pt⟩ hlen hne (by simp [hne, apart_e pt he]) fun y h' tk hy ho hs' hT hsz hk => ?_
    have ey : y = u := by
      have hy' : its.toArray[i]? = some y := hy
      rw [List.getElem?_toArray, hu] at hy'
      exact (Option.some.inj hy').symm
    subst ey
    refine ⟨_, rfl, wpAny_letOwnedTupleGo_enum (s := { s with heap := h', toks := tk + 1 }) ho fun h'' he' sb => ?_⟩
    have hT2 : h''.get? s.heap.objs.size = some { cls := .type "tuple", data := .seq #[.int (i : Nat) tk, y] } := (sb.2 _ (Nat.ne_of_gt hel)).trans hT
    have new : ObjOk X.prog X.w (upd H s.heap.objs.size (.tup [.int (i : Nat), x])) h'' s.heap.objs.size (.tup [.int (i : Nat), x]) := ⟨by show 2 ≤ sizeLine; decide, [.int (i : Nat) tk, y], .cons ⟨_, rfl⟩ (.cons ru .nil), ⟨_, hT2, rfl, _, rfl⟩⟩
    have I1 : Inv X pins σ (upd H s.heap.objs.size (.tup [.int (i : Nat), x])) { s with heap := h'', toks := tk + 1 } :=
      I.turnedNew (ch := [e, it]) (fun b ob hb q => (sb.2 b (fun z => hb (by simp [z]))).trans (hk b ob (fun z => hb (by simp [z])) (fun z => hb (by simp [z])) q)) hf (Nat.le_refl _) new
    refine ⟨.ref s.heap.objs.size, _, I1, rfl, ⟨_, x, rfl, I.hok.fresh (Nat.le_refl _), rfl, fun ys hy => by rw [I.tuple_inj hy hq]; exact hx⟩, ⟨⟨y, ?_⟩, hs'.1.at fun o q => (sb.2 it (Ne.symm hne)).trans q, hne⟩, fun b hb => ?_⟩
    · rw [show ((i + 1 : Nat) : Int) = (i : Int) + 1 by omega]
      exact he'
    · have hb' : b < s.heap.objs.size := by
        rcases (show b = e ∨ b = it by simpa using hb) with z | z
        · exact z ▸ hel
        · exact z ▸ hil
      rw [upd_ne (Nat.ne_of_lt hb')]
      exact (hf b hb).1
  done := by
    intro X hP hw hK hc i pins s σ H E I hf st hg
    subst hP hw hK
    obtain ⟨⟨old, he⟩, hit, hne⟩ := st
    obtain ⟨xs, hq, hx⟩ := hg
    obtain ⟨its, rv, p, hz⟩ := I.tuple hq
    have pt : s.heap.IsTuple a its.toArray := p
    obtain ⟨f0, f1, f2, f3, f4, f5⟩ := hf it (by simp)
    have hl : its.toArray.size = i := by
      have := rv.length
      simp
      omega
    have D := Draws.tuple (prog := X.prog) (w := X.w) (A := X.A.in1) (I.ok.hd hc) it a (apart_t pt hit) its.toArray
    exact wpAny_pyNext_enum_endD D he ⟨hl.symm ▸ hit, pt⟩ fun h' eb => ⟨rfl, I.turned (t' := s.toks) (fun b o hb q => eb b o hb q) f0 f1 f3 f4 f5⟩
  self := fun A i s Q E st h => let ⟨⟨_, he⟩, _⟩ := st; wpAny_pyIter_enum he h
def iEnumT (K : PySem.W.Frag) (ta : TA) : TI := fun σ H R => ta σ H fun vs H1 => ∃ a xs, vs = [.ref a] ∧ SqT K H1 a xs ∧ R (IteT K a) H1
theorem pi_enumT {X : Cx} {e : Expr} {ta : TA} {p pos tpos : Pos} {elts : List Expr} {kk : Nat} (hg : Gl X "enumerate") (hm : X.mg "enumerate" = none) (ha : PA X [e] ta) (hs : starEach [e] X.env = [(false, eval e X.env)] := by rfl) : PI X (.Tuple elts kk tpos) (.Call (.Name "enumerate" p) [e] [] pos) (iEnumT X.K ta) := by
  refine ⟨fun pins s σ H R I h => Call_ (ld_blt I hg hm boot_enumerate (PyProof.Rows.callWith_type1 (thn (ha.run pos pins s σ H _ I h) fun us s1 ⟨vs, H1, I1, r1, q1⟩ => ?_) hs rfl))⟩
  obtain ⟨a, xs, ex, hq, q⟩ := q1
  subst ex
  cases r1 with
  | cons r rr =>
    cases rr
    cases r
    obtain ⟨its, rv, p', hz⟩ := I1.tuple hq
    have pt : s1.heap.IsTuple a its.toArray := p'
    refine enum_call1 (begins_tuple a its.toArray) pt fun h' he hit hk => wpAny_pyIter_enum he ?_
    have I2 : Inv X pins σ H1 { s1 with heap := h' } := I1.kept (t' := s1.toks) hk
    refine ⟨s1.heap.objs.size + 1, [s1.heap.objs.size + 1, s1.heap.objs.size], _, _, H1, rfl, I2, turn_enumT a (s1.heap.objs.size + 1) s1.heap.objs.size, ⟨⟨.none, he⟩, ⟨_, hit, rfl, rfl⟩, Nat.succ_ne_self _⟩, fun b hb => ?_, q⟩
    have hle : s1.heap.objs.size ≤ b := by
      rcases (show b = s1.heap.objs.size + 1 ∨ b = s1.heap.objs.size by simpa using hb) with z | z
      · rw [z]
        exact Nat.le_add_right _ _
      · exact Nat.le_of_eq z.symm
    exact I1.fpOk hle (I1.hok.fresh hle)
def atN (ds : List D) (i : Nat) : O := .dat (.tup [.int (i : Int), ds.getD i .non])
section
variable {C : Cc} {E : List O} {M M1 : Mem} {a : Expr} {pos p : Pos}
theorem EI.enum {ds : List D} {x : Str} {elts : List Expr} {kk : Nat} {tp : Pos} (h1 : EV C a E M (.dat (.tup ds)) M1) (hm : Bt C.g "enumerate") (hx : x = "enumerate" := by rfl) (hg : C.sc.names.lookup x = some .globalImplicit := by rfl) (hs : ∀ env, starEach [a] env = [(false, eval a env)] := by intro _; rfl) :
    EI C (.Tuple elts kk tp) (.Call (.Name x p) [a] [] pos) E M ds.length (atN ds) M1 tt := fun I H adr σ R s q => by
  subst hx
  refine ⟨iEnumT C.g.K (tCons (UE C a) tNil), fun X hX => by
    have := pi_enumT (tpos := tp) (elts := elts) (kk := kk) (p := p) (pos := pos) (X := X) (by show X.env.scope.names.lookup _ = _; rw [hX.sc]; exact hg) (by rw [hX.mg]; exact hm) (pa_cons (ue hX a) pa_nil (by rw [hs X.env]; rfl)) (hs X.env)
    rw [hX.K] at this
    exact this, h1 I H adr σ _ s fun v I1 H1 adr1 s1 g1 v1 => ?_⟩
  cases (show Rep I1 (.tup ds) v from v1) with
  | @tup p1 xs _ hp hr =>
    refine ⟨p1, xs, rfl, sqt_uniq (s1.ex _ _ hp), q _ I1 H1 adr1 s1 g1 fun I3 H3 adr3 σ3 E3 M3 s3 g3 _ => ?_⟩
    have a1 : SqT C.g.K H3 p1 xs := sqt_uniq (s3.ex _ _ (g3.ex _ _ hp))
    have l1 := hr.length
    refine ⟨⟨xs, a1, l1.symm⟩, fun n hn => ?_⟩
    have b1 : xs[n]? = some (xs[n]'(by omega)) := List.getElem?_eq_getElem _
    refine ⟨⟨xs, _, a1, b1⟩, fun z H4 hz => ?_⟩
    obtain ⟨T, y, rfl, hT, rfl, f1⟩ := hz
    obtain ⟨x', ex, rx⟩ := hr.get (atO_get hn)
    have e1 : x' = y := Option.some.inj (ex.symm.trans (f1 _ a1))
    subst e1
    obtain ⟨s4, g4, r4⟩ := s3.tup hT (.cons (.int (n : Int)) (.cons (rx.mono g3.ex) .nil))
    exact ⟨_, s4, g4, r4⟩
end
end Ab
/-! Ab: two generators, deep ==, a table of the module, texts in a tuple. -/
namespace Ab
open PySem PySem.Spec PyProof.Rows L2
variable [TabCtx]

/-! ### data as the kit's -/
mutual
inductive Py : D → PyData → Prop
  | non : Py .non .none
  | bl (b : Bool) : Py (.bl b) (.bool b)
  | int (i : Int) : Py (.int i) (.int i)
  | tup {ds : List D} {ps : List PyData} (h : Pys ds ps) : Py (.tup ds) (.tuple ps)
  | lst {ds : List D} {ps : List PyData} (h : Pys ds ps) : Py (.lst ds) (.list ps)
inductive Pys : List D → List PyData → Prop
  | nil : Pys [] []
  | cons {d : D} {ds : List D} {p : PyData} {ps : List PyData} (h : Py d p) (r : Pys ds ps) : Pys (d :: ds) (p :: ps)
end
mutual
theorem rep_dp {K : PySem.W.Frag} {I H : Hp} (e : Ex I H) : ∀ {d : D} {p : PyData} {v : V}, Py d p → Rep I d v → Dp K H v p
  | _, _, _, .non, .non => .non
  | _, _, _, .bl _, .bl b => .bl b
  | _, _, _, .int _, .int i => .int i
  | _, _, _, .tup h, .tup a r => .tup (.inl (.inl (e _ _ a))) (reps_dp e h r)
  | _, _, _, .lst h, .lst a r => .lst (.inl (.inl (e _ _ a))) (reps_dp e h r)
theorem reps_dp {K : PySem.W.Frag} {I H : Hp} (e : Ex I H) : ∀ {ds : List D} {ps : List PyData} {vs : List V}, Pys ds ps → Reps I ds vs → DpAll K H vs ps
  | _, _, _, .nil, .nil => .nil
  | _, _, _, .cons h q, .cons a r => .cons (rep_dp e h a) (reps_dp e q r)
end
def pV (v : List Int) : PyData := .tuple (v.map .int)
def pM (m : List (List Int)) : PyData := .tuple (m.map pV)
theorem pys_int : ∀ v : List Int, Pys (v.map D.int) (v.map PyData.int)
  | [] => .nil
  | x :: v => .cons (.int x) (pys_int v)
theorem py_V (v : List Int) : Py (tV v) (pV v) := .tup (pys_int v)
theorem pys_V : ∀ m : List (List Int), Pys (m.map tV) (m.map pV)
  | [] => .nil
  | r :: m => .cons (py_V r) (pys_V m)
theorem py_M (m : List (List Int)) : Py (tM m) (pM m) := .tup (pys_V m)
theorem eqv_ints : ∀ v w : List Int, PyData.eqvAll (v.map .int) (w.map .int) = decide (v = w)
  | [], [] => rfl
  | [], _ :: _ => rfl
  | _ :: _, [] => rfl
  | x :: v, y :: w => by
    show ((x == y) && PyData.eqvAll (v.map .int) (w.map .int)) = _
    rw [eqv_ints v w, Bool.eq_iff_iff]
    simp
theorem eqv_rows : ∀ m n : List (List Int), PyData.eqvAll (m.map pV) (n.map pV) = decide (m = n)
  | [], [] => rfl
  | [], _ :: _ => rfl
  | _ :: _, [] => rfl
  | x :: v, y :: w => by
    show (PyData.eqvAll (x.map .int) (y.map .int) && PyData.eqvAll (v.map pV) (w.map pV)) = _
    rw [eqv_rows v w, eqv_ints, Bool.eq_iff_iff]
    simp
theorem lay_ints : ∀ v : List Int, PyData.canLayAll0 (v.map .int) = true
  | [] => rfl
  | x :: v => by
    show (true && PyData.canLayAll0 (v.map .int)) = true
    rw [lay_ints v]
    rfl
theorem lay_rows : ∀ m : List (List Int), PyData.canLayAll0 (m.map pV) = true
  | [] => rfl
  | x :: v => by
    show (PyData.canLayAll0 (x.map .int) && PyData.canLayAll0 (v.map pV)) = true
    rw [lay_rows v, lay_ints]
    rfl
theorem dep_ints : ∀ v : List Int, PyData.depthAll (v.map .int) ≤ 1
  | [] => by decide
  | x :: v => by
    have := dep_ints v
    show max _ (PyData.depthAll (v.map .int)) ≤ 1
    have h1 : PyData.depth (.int x) ≤ 1 := by
      show (_ : Nat) ≤ 1
      first | exact Nat.zero_le _ | exact Nat.le_refl _
    omega
theorem dep_rows : ∀ m : List (List Int), PyData.depthAll (m.map pV) ≤ 2
  | [] => by decide
  | x :: v => by
    have := dep_rows v
    have h2 := dep_ints x
    show max (PyData.depthAll (x.map .int) + 1) (PyData.depthAll (v.map pV)) ≤ 2
    omega
theorem shaped_M (m : List (List Int)) : SeqAt.shaped (pM m) = true := by
  unfold SeqAt.shaped
  have h1 : (pM m).canLay0 = true := lay_rows m
  have h2 : (pM m).depth ≤ 64 := by
    have := dep_rows m
    show PyData.depthAll (m.map pV) + 1 ≤ 64
    omega
  rw [h1, decide_eq_true h2]
  rfl
section
variable {C : Cc} {E E1 E2 E' : List O} {M M1 M2 M3 M' : Mem} {o o1 o2 o3 : O} {os : List O} {e a b c tg iter elt : Expr} {es : List Expr} {pos pos' p p2 pos2 : Pos} {d d1 d2 : D} {i j : Int} {n : Nat} {k k' : Bool} {r : Out} {body : List Stmt} {x y : Str} {ds : List D}
theorem hu64 {X : Cx} (hX : CxIs C X) : X.A.units + 64 < cLine := hX.room.units
theorem CS.eqM {m m' : List (List Int)} : CS C .Eq (.dat (tM m)) (.dat (tM m')) M (.dat (.bl (decide (m = m')))) M := ⟨rEqD C.g.K, fun X hX => by
  have := op_eqD (X := X) (hu64 hX)
  rw [hX.K] at this
  exact this, fun I H adr σ E v w Q s hv hw q => by
  refine ⟨pM m, pM m', rep_dp s.ex (py_M m) hv, rep_dp s.ex (py_M m') hw, shaped_M m, shaped_M m', ?_⟩
  have e : PyData.eqv (pM m) (pM m') = decide (m = m') := eqv_rows m m'
  rw [e]
  exact q _ I H adr s Grow.refl (.bl _)⟩
/-- a scalar against another: none, bool, int, str -/
theorem CS.neNI : CS C .NotEq (.dat .non) (.dat (.int j)) M (.dat (.bl true)) M := ⟨_, fun X _ => op_ne, ro_ne (x := .non) (y := .int j) (fun _ _ h => by cases h; rfl) (fun _ _ => rep_int) rfl rfl⟩
/-! ### texts in a tuple -/
def inS (z : Str) (xs : List Str) : Bool := xs.any fun n => n == z
theorem inV_strs {z : Str} : ∀ xs : List Str, inV (.str z) (xs.map V.str) = inS z xs
  | [] => rfl
  | n :: ns => by
    show (eqV (.str n) (.str z) || inV (.str z) (ns.map V.str)) = (n == z || inS z ns)
    rw [inV_strs ns]
    rfl
theorem reps_str {I : Hp} : ∀ {ns : List Str} {xs : List V}, Reps I (ns.map .str) xs → xs = ns.map V.str
  | [], _, .nil => rfl
  | n :: ns, _, .cons h r => by
    cases h
    rw [reps_str r]
    rfl
theorem rep_str' {I : Hp} {z : Str} {v : V} (h : Rep I (.str z) v) : v = .str z := by cases h; rfl
theorem flat_txt (ns : List Str) : (ns.map V.str).all flatV = true := by
  rw [List.all_map, List.all_eq_true]
  intro x _
  rfl
theorem CS.inSt {z : Str} {ns : List Str} : CS C .In (.dat (.str z)) (.dat (.tup (ns.map .str))) M (.dat (.bl (inS z ns))) M := ⟨rIn C.g.K false, fun X hX => by
  have := op_in_seq (X := X)
  rw [hX.K] at this
  exact this, fun I H adr σ E v w Q s hv hw q => by
  cases rep_str' hv
  cases (show Rep I (.tup (ns.map .str)) w from hw) with
  | @tup p xs _ hp hr =>
    have e := reps_str hr
    subst e
    refine ⟨p, _, rfl, .inr (.inl (.inl (s.ex _ _ hp))), rfl, flat_txt ns, ?_⟩
    show Q (.bl (inV _ _)) H
    rw [inV_strs]
    exact q _ I H adr s Grow.refl (.bl _)⟩
/-! ### a table of the module with text keys -/
structure TabK (g : Pg) (x : Str) (tab : Str → Option Int) : Prop where
  ex : ∃ (dd : Addr) (es : Array DictEntry) (n : Nat), g.mg x = some (.ref dd) ∧ KDict g.K g.w dd es n ∧ ∀ z : Str, ∃ r : Option Value, PySem.W.nsIn g.K dd z = some r ∧ match tab z with
    | some i => ∃ u, r = some u ∧ RelV (.int i) u
    | none => r = none
def optI : Option Int → D
  | some i => .int i
  | none => .non
theorem get_kd {X : Cx} {dd : Addr} {es : Array DictEntry} {n : Nat} (D : KDict X.K X.w dd es n) : MtR X "dict.get" (fun v vs H Q => ∃ (z : Str) (r : Option Value) (v0 : V), v = .ref dd ∧ vs = [.str z] ∧ PySem.W.nsIn X.K dd z = some r ∧ RelV v0 (r.getD .none) ∧ Q v0 H) := by
  intro pins s σ H x xs v us Q I rx rxs h
  obtain ⟨z, r, v0, rfl, rfl, e, rv, q⟩ := h
  cases rx
  obtain ⟨u, rfl, ru⟩ := vals1 rxs
  obtain ⟨t, rfl⟩ := ru
  have mo := PySem.W.mapOf_K (prog := X.prog) (w := X.w) I.kIn D.at_ D.lit
  refine call_meetsIn PySem.F.slot_dict_get mo.typeIs PySem.F.entry_dict_get (PySem.F.args_dict_get_2 _ _) (meets_dict_get (PySem.strKind X.prog X.w) dd (PySem.strKind_is X.prog X.w z t) D.low) ⟨_, mo, ?_⟩
  rw [PySem.W.find_K D.at_ e]
  exact ⟨v0, H, I.tok _, rv, q⟩
def tKGet (dd : Addr) (n : Str → Option (Option Value)) (ta : TA) : TE := fun σ H Q => ta σ H fun xs H2 => ∃ (z : Str) (r : Option Value) (v0 : V), xs = [.str z] ∧ n z = some r ∧ RelV v0 (r.getD .none) ∧ Q v0 H2
theorem pe_kget {X : Cx} {dd : Addr} {es : Array DictEntry} {n : Nat} {ob ar : Expr} {t : TA} {apos cpos : Pos} (D : KDict X.K X.w dd es n) (ho : PE X ob (tC (.ref dd))) (ha : PA X [ar] t) (hbase : attributeBase ob "get" X.env (eval ob X.env) = eval ob X.env)
    (hfew : ((backTo cpos (starEach [ar] X.env)).all (fun x => !x.1) && (backToKw cpos (keywordEach [] X.env)).all (fun x => x.1.isSome) && decide ([ar].length + ([] : List Keyword).length + (if ([] : List Keyword).isEmpty then 0 else 1) < 30)) = true)
    (hline : (apos.endLine == cpos.line) = true) (hs : starEach [ar] X.env = (false, eval ar X.env) :: starEach [] X.env) : PE X (.Call (.Attribute ob "get" apos) [ar] [] cpos) (tKGet dd (PySem.W.nsIn X.K dd) t) :=
  ⟨fun pins s σ H Q I h => wpAny_Call_method_late hbase hfew hline rfl (thn (ho.run pins s σ H (fun x H1 => x = .ref dd ∧ tKGet dd (PySem.W.nsIn X.K dd) t σ H1 Q) I ⟨rfl, h⟩) fun v s1 ⟨x, H1, I1, r1, ex, q1⟩ => by
    subst ex
    have ev : v = Value.ref dd := r1
    subst ev
    have hA := ha.run cpos pins s1 σ H1 _ I1 q1
    refine ⟨"dict", "dict.get", PySem.F.plainAttrs_dict, PySem.F.slot_dict_get, PySem.F.type_dict_get, kd_type D I1, fun a ea => ?_, ?_⟩
    · cases ea
      exact ⟨_, I1.kIn _ _ D.at_, rfl⟩
    · rw [hs] at hA ⊢
      refine Calls.callWith_builtin (by rfl) (Calls.evalArgs_plain (thn hA fun us s2 ⟨vs, H2, I2, r2, z, r, v0, q2, q3, q4, q5⟩ => get_kd D pins s2 σ H2 (.ref dd) vs _ us Q I2 rfl r2 ⟨z, r, v0, rfl, q2, q3, q4, q5⟩)))⟩
theorem EV.dget {z : Str} {tab : Str → Option Int} {apos q : Pos} (T : TabK C.g x tab) (ha : EV C a E M (.dat (.str z)) M') (hg : C.sc.names.lookup x = some .globalImplicit := by rfl) (hdb : (x == ("__debug__" : Str)) = false := by decide)
    (hbase : ∀ env, attributeBase (.Name x q) "get" env (eval (.Name x q) env) = eval (.Name x q) env := by intro _; rfl)
    (hfew : ∀ env, ((backTo pos (starEach [a] env)).all (fun x => !x.1) && (backToKw pos (keywordEach [] env)).all (fun x => x.1.isSome) && decide ([a].length + ([] : List Keyword).length + (if ([] : List Keyword).isEmpty then 0 else 1) < 30)) = true := by intro _; rfl)
    (hline : (apos.endLine == pos.line) = true := by rfl) (hs : ∀ env, starEach [a] env = (false, eval a env) :: starEach [] env := by intro _; rfl) : EV C (.Call (.Attribute (.Name x q) "get" apos) [a] [] pos) E M (.dat (optI (tab z))) M' := by
  obtain ⟨dd, es, n, hm, D, hq⟩ := T.ex
  obtain ⟨r, hr, hv⟩ := hq z
  refine EV.mk (t := tKGet dd (PySem.W.nsIn C.g.K dd) (tCons (UE C a) tNil)) (fun X hX => by
    have D' : KDict X.K X.w dd es n := by rw [hX.K, hX.w]; exact D
    have := pe_kget (apos := apos) (cpos := pos) D' (pe_glob (v := .ref dd) (u := .ref dd) (pos := q) (by show X.env.scope.names.lookup x = _; rw [hX.sc]; exact hg) (by rw [hX.mg]; exact hm) rfl hdb) (pa_cons (ue hX a) pa_nil (hs X.env)) (hbase X.env) (hfew X.env) hline (hs X.env)
    rw [hX.K] at this
    exact this) fun I H adr σ Q s q => ha I H adr σ _ s fun v I1 H1 adr1 s1 g1 v1 => ?_
  cases rep_str' v1
  cases ht : tab z with
  | some i =>
    rw [ht] at hv q
    obtain ⟨u, rfl, hu⟩ := hv
    exact ⟨z, _, .int i, rfl, hr, hu, q _ I1 H1 adr1 s1 g1 (.int i)⟩
  | none =>
    rw [ht] at hv q
    subst hv
    exact ⟨z, _, .non, rfl, hr, rfl, q _ I1 H1 adr1 s1 g1 .non⟩
/-! ### two generators -/
theorem LC2.ev {α β : Type} (jx jy : Nat) {iter1 : Expr} {scope : Scope} {own : List (Str × Nat)} {q1 q2 : Pos} {xs : List α} {f : α → D} {ys : α → List β} {f' : β → D} {dy : α → D} {gg : α → β → D} (ok : blkC C.N C.sc scope own = true) (nd : C.N.Nodup) (ho : own.map (·.2) = [jx, jy]) (hne : jx ≠ jy)
    (h : EV C iter E M (.dat d) M') (hd : seqD d = some (xs.map f)) (hl : M.length ≤ M'.length) (hok : OkM M M') (hz : (xs.flatMap fun u => (ys u).map (gg u)).length < 100000)
    (inner : ∀ u ∈ xs, ∀ M, EV (C.blk scope) iter1 ((wipeE E [jx, jy]).set jx (.dat (f u))) M (.dat (dy u)) M ∧ seqD (dy u) = some ((ys u).map f'))
    (step : ∀ u ∈ xs, ∀ v ∈ ys u, ∀ M, EV (C.blk scope) elt (((wipeE E [jx, jy]).set jx (.dat (f u))).set jy (.dat (f' v))) M (.dat (gg u v)) M)
    (hi : C.N[jx]? = some x := by rfl) (hi' : C.N[jy]? = some y := by rfl) (hx : Loc (C.blk scope).sc x := by first | exact Or.inl rfl | exact Or.inr rfl) (hx' : Loc (C.blk scope).sc y := by first | exact Or.inl rfl | exact Or.inr rfl)
    (hf' : (C.blk scope).fn x = true ∨ (C.blk scope).sc.names.lookup x = some .local := by first | exact .inl rfl | exact .inr rfl) (hf'' : (C.blk scope).fn y = true ∨ (C.blk scope).sc.names.lookup y = some .local := by first | exact .inl rfl | exact .inr rfl)
    (hf : ∀ env x, foldedSetIterable iter env x = pure x := by intro _ _; rfl) (hf2 : ∀ env x, foldedSetIterable iter1 env x = pure x := by intro _ _; rfl) : EV C (.ListComp elt [⟨.Name x q1, iter, [], 0⟩, ⟨.Name y q2, iter1, [], 0⟩] scope pos) E M (.dat (.lst (xs.flatMap fun u => (ys u).map (gg u)))) M' := by
  have hn : (xs.map f).length = xs.length := List.length_map _
  let acc : Nat → List D := fun i => (xs.take i).flatMap fun u => (ys u).map (gg u)
  have hacc : ∀ i (h : i < xs.length), acc (i + 1) = acc i ++ (ys xs[i]).map (gg xs[i]) := fun i h => by
    show (xs.take (i + 1)).flatMap _ = (xs.take i).flatMap _ ++ _
    rw [List.take_succ_eq_append_getElem h, List.flatMap_append]
    simp
  have hle : ∀ i, (acc i).length ≤ (xs.flatMap fun u => (ys u).map (gg u)).length := fun i => by
    have e : xs.flatMap (fun u => (ys u).map (gg u)) = acc i ++ (xs.drop i).flatMap fun u => (ys u).map (gg u) := by
      show _ = (xs.take i).flatMap _ ++ _
      rw [← List.flatMap_append, List.take_append_drop]
    rw [e, List.length_append]
    omega
  have main : EV C (.ListComp elt [⟨.Name x q1, iter, [], 0⟩, ⟨.Name y q2, iter1, [], 0⟩] scope pos) E M (.adr M'.length) (M' ++ [some ((acc xs.length).map O.dat)]) := by
    refine EV.mk (fun X hX => pe_lc2 (vs1 := [jy]) hX.calm (by rw [hX.N]; exact nd) (ui hX (.Name x q1) iter) (by rw [hX.N, hX.sc]; exact blkOk_by ok) (fun i hi => by rw [ho]; simp at hi; simp [hi]) (fun s H A cl fp => ug (cx_blk hX s H scope A cl fp) (.Name x q1)) (fun s H A cl fp => up (cx_blk hX s H scope A cl fp) []) (fun s H A cl fp => ui (cx_blk hX s H scope A cl fp) (.Name y q2) iter1) (fun s H A cl fp => ug (cx_blk hX s H scope A cl fp) (.Name y q2)) (fun s H A cl fp => up (cx_blk hX s H scope A cl fp) []) (fun s H A cl fp => ue (cx_blk hX s H scope A cl fp) elt) (hf X.env) hf2) fun I H adr σ Q s q => ?_
    rw [ho]
    refine (EI.seq (tg := .Name x q1) h hd) I H adr σ _ s fun J I1 H1 adr1 s1 g1 hr Dl hD => ?_
    rw [hn] at hr
    obtain ⟨s2, g2, atD⟩ := s1.cel hD (os := []) .nil
    refine ⟨fun i μ H' => i ≤ xs.length ∧ μ = xs.length - i ∧ ∃ I3 adr3, Stt I3 H' adr3 σ E (M' ++ [some ((acc i).map O.dat)]) ∧ Grow I1 (upd H1 Dl (.lst [])) (adr1 ++ [Dl]) I3 H' adr3, ⟨xs.length, Nat.zero_le _, by omega, I1, _, s2, Grow.refl⟩, ?_⟩
    rintro i μ H3 ⟨hi3, rfl, I3, adr3, s3, g3⟩
    obtain ⟨st, go⟩ := hr I3 H3 adr3 σ E _ s3 (g2.trans g3) True.intro
    by_cases him : i < xs.length
    · obtain ⟨g0, gy⟩ := go i him
      refine .inr ⟨g0, fun H'' => ∃ I4 adr4, Stt I4 H'' adr4 σ E (M' ++ [some ((acc (i + 1)).map O.dat)]) ∧ Grow I1 (upd H1 Dl (.lst [])) (adr1 ++ [Dl]) I4 H'' adr4, fun H'' hN => ⟨xs.length - (i + 1), by omega, by omega, rfl, hN⟩, fun z H4 hy => ?_⟩
      obtain ⟨I4, s4, g4, v4⟩ := gy z H4 hy
      rw [atO_map him] at v4
      have hu : xs[i] ∈ xs := List.getElem_mem him
      generalize hxi : xs[i] = u at v4 hu
      refine (EGv.nm (C := C.blk scope) (vs := [jx, jy]) jx nd (by simp) hi hx hf') I4 H4 adr3 (wipe σ [jx, jy]) z _ (s4.wipe _) v4 fun I5 H5 adr5 σ5 s5 g5 l5 f5 => ⟨?_, ?_⟩
      · rw [wipe_eq l5 f5]
        exact wipe_eq (wipe_length _ _) fun i hi => wipe_get _ _ _ hi
      · refine (EP.nil (C := C.blk scope)) I5 H5 adr5 σ5 _ s5 fun I6 H6 adr6 s6 g6 => ?_
        rw [if_pos rfl]
        obtain ⟨hin, hdy⟩ := inner u hu (M' ++ [some ((acc i).map O.dat)])
        refine (EI.seq (tg := .Name y q2) hin hdy) I6 H6 adr6 σ5 _ s6 fun J1 I7 H7 adr7 s7 g7 hr1 => ?_
        have hn1 : ((ys u).map f').length = (ys u).length := List.length_map _
        rw [hn1] at hr1
        refine ⟨fun j κ H' => j ≤ (ys u).length ∧ κ = (ys u).length - j ∧ ∃ I8 adr8, Stt I8 H' adr8 σ5 ((wipeE E [jx, jy]).set jx (.dat (f u))) (M' ++ [some ((acc i ++ ((ys u).take j).map (gg u)).map O.dat)]) ∧ Grow I7 H7 adr7 I8 H' adr8, ⟨(ys u).length, Nat.zero_le _, by omega, I7, adr7, by rw [List.take_zero, List.map_nil, List.append_nil]; exact s7, Grow.refl⟩, ?_⟩
        rintro j κ H8 ⟨hj, rfl, I8, adr8, s8, g8⟩
        obtain ⟨st1, go1⟩ := hr1 I8 H8 adr8 σ5 _ _ s8 g8 True.intro
        by_cases hjm : j < (ys u).length
        · obtain ⟨g01, gy1⟩ := go1 j hjm
          refine .inr ⟨g01, fun H' => ∃ I9 adr9, Stt I9 H' adr9 σ5 ((wipeE E [jx, jy]).set jx (.dat (f u))) (M' ++ [some ((acc i ++ ((ys u).take (j + 1)).map (gg u)).map O.dat)]) ∧ Grow I7 H7 adr7 I9 H' adr9, fun H' hN => ⟨(ys u).length - (j + 1), by omega, by omega, rfl, hN⟩, fun z' H9 hy1 => ?_⟩
          obtain ⟨I9, s9, g9, v9⟩ := gy1 z' H9 hy1
          rw [atO_map hjm] at v9
          have hvm : (ys u)[j] ∈ ys u := List.getElem_mem hjm
          refine (EGv.nm (C := C.blk scope) (vs := [jy]) jy nd (by simp) hi' hx' hf'') I9 H9 adr8 (wipe σ5 [jy]) z' _ (s9.wipe _) v9 fun I10 H10 adr10 σ10 s10 g10 l10 f10 => ⟨?_, ?_⟩
          · rw [wipe_eq l10 f10]
            exact wipe_eq (wipe_length _ _) fun i hi => wipe_get _ _ _ hi
          · refine (EP.nil (C := C.blk scope)) I10 H10 adr10 σ10 _ s10 fun I11 H11 adr11 s11 g11 => ?_
            rw [if_pos rfl]
            have eE : (wipeE ((wipeE E [jx, jy]).set jx (.dat (f u))) [jy]).set jy (.dat (f' (ys u)[j])) = ((wipeE E [jx, jy]).set jx (.dat (f u))).set jy (.dat (f' (ys u)[j])) := List.set_set _
            rw [eE] at s11
            refine step u hu _ hvm _ I11 H11 adr11 σ10 _ s11 fun w I12 H12 adr12 s12 g12 w12 => ?_
            have gI := (((g8.trans g9).trans g10).trans g11).trans g12
            have gAll := (((((g3.trans g4).trans g5).trans g6).trans g7).trans gI)
            have hD12 : adr12[M'.length]? = some Dl := gAll.get atD
            have hc : (M' ++ [some ((acc i ++ ((ys u).take j).map (gg u)).map O.dat)])[M'.length]? = some (some ((acc i ++ ((ys u).take j).map (gg u)).map O.dat)) := by
              rw [List.getElem?_append_right (Nat.le_refl _), Nat.sub_self]
              rfl
            obtain ⟨_, vs, hx1, hx2⟩ := s12.sto.cell M'.length Dl _ hD12 hc
            have hlen := hx2.length
            have hcnt : (acc i ++ ((ys u).take j).map (gg u)).length ≤ (acc (i + 1)).length := by
              rw [hacc i him, hxi, List.length_append, List.length_append, List.length_map, List.length_map, List.length_take]
              omega
            have h3 := hle (i + 1)
            refine ⟨vs, hx1, by rw [← hlen]; exact sz_lt (by rw [List.length_map]; omega), ?_⟩
            obtain ⟨s13, g13⟩ := s12.wri hD12 hc (Vs.app hx2 (.cons w12 .nil))
            have eM : (M' ++ [some ((acc i ++ ((ys u).take j).map (gg u)).map O.dat)]).set M'.length (some ((acc i ++ ((ys u).take j).map (gg u)).map O.dat ++ [O.dat (gg u (ys u)[j])])) = M' ++ [some ((acc i ++ ((ys u).take (j + 1)).map (gg u)).map O.dat)] := by
              rw [List.set_append_right _ _ (Nat.le_refl _), Nat.sub_self, List.take_succ_eq_append_getElem hjm, List.map_append (f := gg u), ← List.append_assoc, List.map_append (f := O.dat) (l₂ := [(ys u)[j]].map (gg u))]
              rfl
            rw [eM] at s13
            exact ⟨I12, adr12, s8.mono ((((g9.trans g10).trans g11).trans g12).trans g13) s13.ex s13.sto, gI.trans g13⟩
        · have ej : j = (ys u).length := by omega
          subst ej
          refine .inl ⟨st1, I8, adr8, ?_, ((((g3.trans g4).trans g5).trans g6).trans g7).trans g8⟩
          have e1 : acc (i + 1) = acc i ++ ((ys u).take (ys u).length).map (gg u) := by rw [hacc i him, hxi, List.take_length]
          rw [e1]
          exact s3.mono ((((g4.trans g5).trans g6).trans g7).trans g8) s8.ex s8.sto
    · have e : i = xs.length := by omega
      subst e
      exact .inl ⟨st, q _ I3 H3 adr3 s3 ((g1.trans g2).trans g3) ⟨Dl, g3.get atD, rfl⟩⟩
  have e2 : acc xs.length = xs.flatMap fun u => (ys u).map (gg u) := by
    show (xs.take xs.length).flatMap _ = _
    rw [List.take_length]
  rw [e2] at main
  exact Ev.froz main rfl hl hok
end
end Ab
/-! Ab: dict displays, a text some times. -/
namespace Ab
open PySem PySem.Spec PyProof.Rows L2
variable [TabCtx]
section
variable {C : Cc} {E E1 E2 E' : List O} {M M1 M2 M3 M' : Mem} {a b c : Expr} {es : List Expr} {pos pos' p p2 pos2 : Pos} {d d1 d2 : D} {i j : Int} {n : Nat} {k k' : Bool} {x y : Str} {ds : List D}
theorem EV.dict0 : EV C (.Dict [] [] pos) E M (.dat (.dct [] [])) M :=
  EV.mk (fun _ _ => pe_dnewK) fun I H adr σ Q s q p hp => by
    obtain ⟨s2, g2⟩ := s.ext (o := .dK []) hp NT.dK
    exact q _ _ _ _ s2 g2 (.dct (kvs := []) upd_same .nil)
/-- "0" * m, m from 1 to 3 -/
def zeros (m : Int) : Str := if m = 1 then "0" else if m = 2 then "00" else "000"
theorem op_zeros {X : Cx} : OpR X (binaryOp .Mult) (fun x y H Q => ∃ m : Int, x = .str "0" ∧ y = .int m ∧ 1 ≤ m ∧ m ≤ 3 ∧ Q (.str (zeros m)) H) := by
  intro pins s σ H x y v u Q I rx ry h
  obtain ⟨m, rfl, rfl, h1, h2, q⟩ := h
  obtain ⟨t, rfl⟩ := rx
  obtain ⟨t', rfl⟩ := ry
  have hm : m = 1 ∨ m = 2 ∨ m = 3 := by omega
  rcases hm with rfl | rfl | rfl
  · exact PySem.P.mul_str (by decide) (by decide) (by decide) ⟨.str (zeros 1), H, I.kept (t' := s.toks) fun _ _ z => z, ⟨t, rfl⟩, q⟩
  · exact PySem.P.mul_str (by decide) (by decide) (by decide) ⟨by decide, .str (zeros 2), H, I.tok _, ⟨_, rfl⟩, q⟩
  · exact PySem.P.mul_str (by decide) (by decide) (by decide) ⟨by decide, .str (zeros 3), H, I.tok _, ⟨_, rfl⟩, q⟩
theorem BS.zeros (h : 1 ≤ i ∧ i ≤ 3) : BS C .Mult (.dat (.str "0")) (.dat (.int i)) M (.dat (.str (Ab.zeros i))) M := ⟨_, fun X _ => op_zeros, fun I H adr σ E v w Q s hv hw q => by
  cases rep_int hw
  cases rep_str' hv
  exact ⟨i, rfl, rfl, h.1, h.2, q _ I H adr s Grow.refl (.str _)⟩⟩
/-- {"key": b} -/
theorem EV.dict1 {z : Str} {jj : Nat} {q0 : Pos} (hb : EV C b E M (.dat d) M') : EV C (.Dict [some (.Constant (.str z) jj q0)] [b] pos) E M (.dat (.dct [.inr z] [d])) M' :=
  EV.mk (t := tDisp [(tC (.str z), UE C b)]) (fun X hX => pe_disp (pps_cons pe_str (ue hX b) pps_nil) rfl rfl (by simp) (by simp)) fun I H adr σ Q s q p hp => by
    have hi := s.ex.non hp
    have pa : p ∉ adr := fun h => by
      obtain ⟨k, hk⟩ := List.getElem?_of_mem h
      obtain ⟨u, hu, _⟩ := s.sto.dom k p hk
      rw [hp] at hu
      cases hu
    have ne0 : ∀ q u, H q = some u → q ≠ p := fun q u h => ne_of_none h hp
    have g0 : Grow I H adr I (upd H p (.dK [])) adr := ⟨Ex.refl _, ⟨[], by simp, by simp⟩, fun q u h _ _ => by rw [upd_ne (ne0 q u h)]; exact h, fun q u h n => ⟨u, by rw [upd_ne (ne0 q u h)]; exact h, n⟩, fun _ _ _ _ h _ => h, fun c q h => by rw [upd_ne (ne0 c _ h)]; exact h⟩
    have t0 : Sto I (upd H p (.dK [])) adr M := ⟨s.sto.len, s.sto.nd, fun k a os h1 h2 => by
      obtain ⟨c1, xs, c2, c3⟩ := s.sto.cell k a os h1 h2
      exact ⟨c1, xs, by rw [upd_ne (ne0 _ _ c2)]; exact c2, c3⟩, fun k a h => by
      obtain ⟨u, hu, n⟩ := s.sto.dom k a h
      exact ⟨u, by rw [upd_ne (ne0 _ _ hu)]; exact hu, n⟩, s.sto.amb.new hp⟩
    have s0 : Stt I (upd H p (.dK [])) adr σ E M := s.mono g0 (s.ex.mut hi) t0
    show tC (.str z) σ (upd H p (.dK [])) _
    show UE C b σ (upd H p (.dK [])) _
    refine hb I _ adr σ _ s0 fun v I2 H2 adr2 s2 g2 v2 => ?_
    have h2p : H2 p = some (.dK []) := g2.keep p _ upd_same NT.dK pa
    have i2p : I2 p = none := g2.out p _ upd_same NT.dK hi pa
    have p2 : p ∉ adr2 := fun h => by
      obtain ⟨nw, rfl, fr⟩ := g2.new
      rcases List.mem_append.mp h with h | h
      · exact pa h
      · exact fr p h _ upd_same NT.dK
    refine ⟨h2p, [(.inr z, v)], rfl, by show 1 ≤ 15; decide, ?_⟩
    show Q (.ref p) (upd H2 p (.dK [(.inr z, v)]))
    have e3 : Ex (upd I2 p (.dK [(.inr z, v)])) (upd H2 p (.dK [(.inr z, v)])) := s2.ex.upd
    have i3 : Ex I2 (upd I2 p (.dK [(.inr z, v)])) := Ex.new i2p
    have amb3 : Amb (upd I2 p (.dK [(.inr z, v)])) (upd H2 p (.dK [(.inr z, v)])) := ⟨fun q hq => by
      obtain ⟨ps, h1, h2, h3⟩ := s2.sto.amb.tabs q hq
      have ne : ∀ b u, H2 b = some u → (∀ zs, u ≠ .dK zs) → b ≠ p := fun b u h n z => by
        rw [z, h2p] at h
        exact n _ (Option.some.inj h).symm
      refine ⟨ps, by rw [upd_ne (ne _ _ h1 (fun _ z => by cases z))]; exact h1, h2, fun pos cv hc => ?_⟩
      obtain ⟨c, e1, e2⟩ := h3 pos cv hc
      exact ⟨c, e1, by rw [upd_ne (ne _ _ e2 (fun _ z => by unfold LamX.CodeO at z; cases z))]; exact e2⟩, fun b u h => by
      by_cases e : b = p
      · subst e
        rw [upd_same] at h
        cases h
        exact NT.dK
      · rw [upd_ne e] at h
        exact s2.sto.amb.nt b u h⟩
    have nep : ∀ (k : Nat) (a : Addr), adr2[k]? = some a → a ≠ p := fun k a h e => p2 (e ▸ List.mem_of_getElem? h)
    have t3 : Sto (upd I2 p (.dK [(.inr z, v)])) (upd H2 p (.dK [(.inr z, v)])) adr2 M' := ⟨s2.sto.len, s2.sto.nd, fun k a os h1 h2 => by
      obtain ⟨c1, xs, c2, c3⟩ := s2.sto.cell k a os h1 h2
      exact ⟨by rw [upd_ne (nep k a h1)]; exact c1, xs, by rw [upd_ne (nep k a h1)]; exact c2, c3.ext i3⟩, fun k a h => by
      obtain ⟨u, hu, n⟩ := s2.sto.dom k a h
      exact ⟨u, by rw [upd_ne (nep k a h)]; exact hu, n⟩, amb3⟩
    have g02 := g0.trans g2
    have nH : ∀ q u, H q = some u → q ≠ p := ne0
    have g3 : Grow I H adr (upd I2 p (.dK [(.inr z, v)])) (upd H2 p (.dK [(.inr z, v)])) adr2 := ⟨g02.ex.trans i3, g02.new, fun q u h n h' => by rw [upd_ne (nH q u h)]; exact g02.keep q u h n h', fun q u h n => by
      obtain ⟨u', hu, n'⟩ := g02.dom q u h n
      exact ⟨u', by rw [upd_ne (nH q u h)]; exact hu, n'⟩, fun q u h n h1 h2 => by rw [upd_ne (nH q u h)]; exact g02.out q u h n h1 h2, fun c q h => by rw [upd_ne (nH c _ h)]; exact g02.code c q h⟩
    exact q _ _ _ _ (s.mono g3 e3 t3) g3 (.dct (kvs := [(.inr z, v)]) upd_same (.cons (Rep.mono i3 (show Rep I2 d v from v2)) .nil))
end
end Ab
/-! Ab: insert, members, a list some times as a cell, least and greatest. -/
namespace Ab
open PySem PySem.Spec PyProof.Rows L2
variable [TabCtx]
section
variable {C : Cc} {E E1 E2 E' : List O} {M M1 M2 M3 M' : Mem} {o : O} {a b c : Expr} {es : List Expr} {pos pos' p p2 pos2 apos : Pos} {d d1 d2 : D} {i j : Int} {n : Nat} {k k' : Bool} {x y : Str} {ds : List D}
theorem EV.insert {ps ps1 : List O} (ho : EV C a E M (.adr n) M1) (hi : EV C b E M1 (.dat (.int i)) M2) (hv : EV C c E M2 o M3) (hm1 : M1[n]? = some (some ps1)) (hm : M3[n]? = some (some ps)) (hz : ps.length < 100000) (h0 : 0 ≤ i ∧ i < 2 ^ 63)
    (hbase : ∀ env, attributeBase a "insert" env (eval a env) = eval a env := by intro _; rfl)
    (hfew : ∀ env, ((backTo pos (starEach [b, c] env)).all (fun x => !x.1) && (backToKw pos (keywordEach [] env)).all (fun x => x.1.isSome) && decide ([b, c].length + ([] : List Keyword).length + (if ([] : List Keyword).isEmpty then 0 else 1) < 30)) = true := by intro _; rfl)
    (hline : (apos.endLine == pos.line) = true := by rfl) (hs : ∀ env, starEach [b, c] env = (false, eval b env) :: starEach [c] env := by intro _; rfl) (hs2 : ∀ env, starEach [c] env = (false, eval c env) :: starEach [] env := by intro _; rfl) (hpl : ∀ env, (backTo pos (starEach [c] env)).any (·.1) = false := by intro _; rfl) :
    EV C (.Call (.Attribute a "insert" apos) [b, c] [] pos) E M (.dat .non) (M3.set n (some (ps.take i.toNat ++ [o] ++ ps.drop i.toNat))) :=
  EV.mk (t := tBM C.g.K "list" (fun x vs H Q => ∃ (l : Addr) (xs : List V) (i : Int) (y : V), x = .ref l ∧ vs = [.int i, y] ∧ H l = some (.lst xs) ∧ xs.length < sizeLine ∧ 0 ≤ i ∧ i < 2 ^ 63 ∧ Q .non (upd H l (.lst (xs.take i.toNat ++ [y] ++ xs.drop i.toNat)))) (UE C a) (tCons (UE C b) (tCons (UE C c) tNil))) (fun X hX => by
    have := pe_bm (apos := apos) (cpos := pos) PySem.F.plainAttrs_list PySem.F.slot_list_insert PySem.F.type_list_insert (mt_insert (X := X)) (ue hX a) (pa_cons (ue hX b) (pa_cons (ue hX c) pa_nil (hs2 X.env)) (hs X.env)) (hbase X.env) (hfew X.env) hline (hs X.env) (hpl X.env)
    rw [hX.K] at this
    exact this) fun I H adr σ Q s q => ho I H adr σ _ s fun v I1 H1 adr1 s1 g1 v1 => by
      obtain ⟨p, hp, rfl⟩ := v1
      obtain ⟨_, xs1, hx1, _⟩ := s1.sto.cell n p ps1 hp hm1
      refine ⟨.inl ⟨rfl, xs1, sql_uniq hx1⟩, hi I1 H1 adr1 σ _ s1 fun u I2 H2 adr2 s2 g2 u2 => hv I2 H2 adr2 σ _ s2 fun w I3 H3 adr3 s3 g3 w3 => ?_⟩
      cases rep_int u2
      have hp3 := g3.get (g2.get hp)
      obtain ⟨_, xs, hx, hr⟩ := s3.sto.cell n p ps hp3 hm
      obtain ⟨s4, g4⟩ := s3.wri hp3 hm (Vs.app (Vs.app (Vs.take i.toNat hr) (.cons w3 .nil)) (Vs.drop i.toNat hr))
      exact ⟨p, xs, i, w, rfl, rfl, hx, by rw [← hr.length]; exact sz_lt hz, h0.1, h0.2, q _ I3 _ adr3 s4 (((g1.trans g2).trans g3).trans g4) .non⟩
theorem CS.notInSt {z : Str} {ns : List Str} : CS C .NotIn (.dat (.str z)) (.dat (.tup (ns.map .str))) M (.dat (.bl (!inS z ns))) M := ⟨rIn C.g.K true, fun X hX => by
  have := op_notIn_seq (X := X)
  rw [hX.K] at this
  exact this, fun I H adr σ E v w Q s hv hw q => by
  cases rep_str' hv
  cases (show Rep I (.tup (ns.map .str)) w from hw) with
  | @tup p xs _ hp hr =>
    have e := reps_str hr
    subst e
    refine ⟨p, _, rfl, .inr (.inl (.inl (s.ex _ _ hp))), rfl, flat_txt ns, ?_⟩
    show Q (.bl (!inV _ _)) H
    rw [inV_strs]
    exact q _ I H adr s Grow.refl (.bl _)⟩
theorem CS.inStL {z : Str} {ns : List Str} : CS C .In (.dat (.str z)) (.dat (.lst (ns.map .str))) M (.dat (.bl (inS z ns))) M := ⟨rIn C.g.K false, fun X hX => by
  have := op_in_seq (X := X)
  rw [hX.K] at this
  exact this, fun I H adr σ E v w Q s hv hw q => by
  cases rep_str' hv
  cases (show Rep I (.lst (ns.map .str)) w from hw) with
  | @lst p xs _ hp hr =>
    have e := reps_str hr
    subst e
    refine ⟨p, _, rfl, .inl (.inl (.inl (s.ex _ _ hp))), rfl, flat_txt ns, ?_⟩
    show Q (.bl (inV _ _)) H
    rw [inV_strs]
    exact q _ I H adr s Grow.refl (.bl _)⟩
/-- [..] * i, a cell -/
theorem BS.mulLN (h0 : 0 ≤ i) (h2 : i ≤ 1000) (h3 : ds.length ≤ 100) : BS C .Mult (.dat (.lst ds)) (.dat (.int i)) M (.adr M.length) (M ++ [some ((List.replicate i.toNat ds).flatten.map .dat)]) := ⟨rRep, fun X hX => op_rep, fun I H adr σ E v w Q s hv hw q => by
  cases rep_int hw
  cases (show Rep I (.lst ds) v from hv) with
  | @lst a xs _ ha hr =>
    have l1 := hr.length
    refine ⟨a, i, xs, rfl, rfl, s.ex _ _ ha, by omega, by omega, ?_, fun p hp => ?_⟩
    · have : xs.length * i.toNat ≤ 100 * 1000 := Nat.mul_le_mul (by omega) (by omega)
      exact sz_of (by omega)
    · obtain ⟨s2, g2, r2⟩ := s.cel hp (Vs.reps (hr.rep i.toNat))
      exact q _ _ _ _ s2 g2 ⟨p, r2, rfl⟩⟩
theorem EV.minL {ns : List Int} {m : Int} (h : EV C a E M (.dat (.lst (ns.map .int))) M') (h1 : m ∈ ns) (h2 : ∀ y ∈ ns, m ≤ y) (hm : Bt C.g "min") (hx : x = "min" := by rfl) (hg : C.sc.names.lookup x = some .globalImplicit := by rfl) (he : ∀ env, starEach [a] env = (false, eval a env) :: starEach [] env := by intro _; rfl) : EV C (.Call (.Name x p) [a] [] pos) E M (.dat (.int m)) M' := by
  subst hx; exact EV.bi (KS.minL h1 h2) h hm bv_min (by decide) (by decide) hg he
theorem EV.maxL {ns : List Int} {m : Int} (h : EV C a E M (.dat (.lst (ns.map .int))) M') (h1 : m ∈ ns) (h2 : ∀ y ∈ ns, y ≤ m) (hm : Bt C.g "max") (hx : x = "max" := by rfl) (hg : C.sc.names.lookup x = some .globalImplicit := by rfl) (he : ∀ env, starEach [a] env = (false, eval a env) :: starEach [] env := by intro _; rfl) : EV C (.Call (.Name x p) [a] [] pos) E M (.dat (.int m)) M' := by
  subst hx; exact EV.bi (KS.maxL h1 h2) h hm bv_max (by decide) (by decide) hg he
end
end Ab
/-! Ab: min(list, key=lambda) with keys that are pairs of ints. -/
namespace Ab
open PySem PySem.Spec PyProof.Rows L2
variable [TabCtx]
section
variable {X : Cx} {pins : List (Addr × Obj)} {σ : L2.St} {E : List O} {M : Mem} {I0 H0 II H : Hp} {adr0 adr : List Addr} {s : Shared} {f l it S : Addr} {of : Obj} {xs : List V} {ka kb : Nat → Int}
/-- an object that is known and untracked -/
structure Kn (X : Cx) (b : Addr) (o : Obj) (H : Hp) (s : Shared) : Prop where
  get : s.heap.get? b = some o
  non : H b = none
  nfr : b ∉ frs X.stack
theorem Kn.past {b : Addr} {o : Obj} {H' : Hp} {s' : Shared} (k : Kn X b o H s) (u : Un (frs X.stack) [] H H' s.heap s'.heap) : Kn X b o H' s' :=
  ⟨u.keep b o k.get k.non k.nfr (fun z => by cases z), u.free b o k.get k.non (fun z => by cases z), k.nfr⟩
theorem Kn.mv {b : Addr} {o : Obj} {s' : Shared} (k : Kn X b o H s) (u : s.heap.get? b = some o → s'.heap.get? b = some o) : Kn X b o H s' := ⟨u k.get, k.non, k.nfr⟩
theorem fpPast {b : Addr} {H' : Hp} (k : FpOk X pins H b) (h : H' b = none) : FpOk X pins H' b := ⟨h, k.2⟩
theorem turnedAt {h' : Heap} {t' : Nat} (J : Inv X pins σ H s) (k : FpOk X pins H it) (q : ∀ b o, b ≠ it → s.heap.get? b = some o → h'.get? b = some o) : Inv X pins σ H { s with heap := h', toks := t' } :=
  J.turned q k.1 k.2.1 k.2.2.2.1 k.2.2.2.2.1 k.2.2.2.2.2
/-- a call of the key -/
def KeyRun (X : Cx) (pins : List (Addr × Obj)) (σ : L2.St) (E : List O) (M : Mem) (I0 H0 : Hp) (adr0 : List Addr) (f : Addr) (of : Obj) (xs : List V) (ka kb : Nat → Int) : Prop :=
  ∀ (j : Nat) (x : V) (u : Value) (s : Shared) (II H : Hp) (adr : List Addr), xs[j]? = some x → RelV x u → Inv X pins σ H s → Stt II H adr σ E M → Grow I0 H0 adr0 II H adr → Kn X f of H s →
    wpAny (model X.prog X.w) X.A.in1 (call (.ref f) [u]) (fun v s' => ∃ p I' H' adr', v = .ref p ∧ Inv X pins σ H' s' ∧ Stt I' H' adr' σ E M ∧ Grow II H adr I' H' adr' ∧ I' p = some (.tup [.int (ka j), .int (kb j)]) ∧ Un (frs X.stack) [] H H' s.heap s'.heap) (fun _ _ => False) s
/-- the key at i is less than that at j -/
def kLess (ka kb : Nat → Int) (i j : Nat) : Prop := ka i < ka j ∨ (ka i = ka j ∧ kb i < kb j)
instance (ka kb : Nat → Int) (i j : Nat) : Decidable (kLess ka kb i j) := by unfold kLess; infer_instance
def kBest (ka kb : Nat → Int) (n i : Nat) : Prop := ∀ j, j < n → ¬ kLess ka kb j i ∧ (j < i → kLess ka kb i j)
theorem pair_lt {p pb : Addr} {a b a2 b2 : Int} (J : Inv X pins σ H s) (hp : H p = some (.tup [.int a, .int b])) (hq : H pb = some (.tup [.int a2, .int b2])) (hu : X.A.in1.units < cLine) :
    Ob.RcOp .Lt X.A.in1 s (.ref p) (.ref pb) (decide (a < a2 ∨ (a = a2 ∧ b < b2))) := by
  obtain ⟨_, its, r1, p1⟩ := (show ObjOk X.prog X.w H s.heap p (.tup [.int a, .int b]) from J.hok p _ hp)
  obtain ⟨_, its2, r2, p2⟩ := (show ObjOk X.prog X.w H s.heap pb (.tup [.int a2, .int b2]) from J.hok pb _ hq)
  cases r1 with
  | cons q1 r1 =>
  cases r1 with
  | cons q2 r1 =>
  cases r1
  cases r2 with
  | cons q3 r2 =>
  cases r2 with
  | cons q4 r2 =>
  cases r2
  obtain ⟨t1, rfl⟩ := q1
  obtain ⟨t2, rfl⟩ := q2
  obtain ⟨t3, rfl⟩ := q3
  obtain ⟨t4, rfl⟩ := q4
  obtain ⟨o1, a1, a2', n1, a3⟩ := p1
  obtain ⟨o2, b1, b2', n2, b3⟩ := p2
  have R := Ob.RcOp.tuples_lt (A := X.A.in1) (s := s) (l := p) (b := pb) (items := [Value.int a t1, Value.int b t2].toArray) (items2 := [Value.int a2 t3, Value.int b2 t4].toArray) (e := fun j => if j = 0 then (a == a2) else (b == b2)) (r := fun j => if j = 0 then decide (a < a2) else decide (b < b2))
    ⟨o1, a1, a2', n1, a3⟩ ⟨o2, b1, b2', n2, b3⟩ hu (fun j h1 h2 => by
      match j, h1, h2 with
      | 0, _, _ => exact SeqAt.EqAt.int_int _ _ _ _
      | 1, _, _ => exact SeqAt.EqAt.int_int _ _ _ _
      | n + 2, h1, _ => exact absurd (show n + 2 < 2 from h1) (by omega)) (fun j h1 h2 _ => by
      match j, h1, h2 with
      | 0, _, _ => exact Ob.RcOp.lt_int _ _ _ _
      | 1, _, _ => exact Ob.RcOp.lt_int _ _ _ _
      | n + 2, h1, _ => exact absurd (show n + 2 < 2 from h1) (by omega))
  have e : Ob.lexAt (fun j => if j = 0 then (a == a2) else (b == b2)) (fun j => if j = 0 then decide (a < a2) else decide (b < b2)) (decide ([Value.int a t1, Value.int b t2].toArray.size < [Value.int a2 t3, Value.int b2 t4].toArray.size)) 0 (min [Value.int a t1, Value.int b t2].toArray.size [Value.int a2 t3, Value.int b2 t4].toArray.size) = decide (a < a2 ∨ (a = a2 ∧ b < b2)) := by
    show (if (a == a2) = true then (if (b == b2) = true then decide (2 < 2) else decide (b < b2)) else decide (a < a2)) = _
    by_cases h1 : a = a2
    · by_cases h2 : b = b2
      · simp [h1, h2]
      · simp [h1, h2]
    · simp [h1]
  rw [e] at R
  exact R
theorem up_get {h : Heap} {c : Nat} {its : Array Value} (e : h.get? S = some (seqObj "list" its c)) (vs : Array Value) : ∃ c2, (h.update S (Obj.mapSeq fun _ => vs)).get? S = some (seqObj "list" vs c2) := ⟨_, get?_update_seq e fun _ => vs⟩
theorem min_loop {R : Result → Shared → Prop} (hh : X.A.handled = none) (hu : X.A.in1.units < cLine) (T : KeyRun X pins σ E M I0 H0 adr0 f of xs ka kb) (hl : I0 l = some (.lst xs)) (hSI : S ≠ it) (hfI : f ≠ it) (hfS : f ≠ S)
    (hR : ∀ (i : Nat) (x : V) (u : Value) (s : Shared) (II H : Hp) (adr : List Addr), xs[i]? = some x → RelV x u → kBest ka kb xs.length i → Inv X pins σ H s → Stt II H adr σ E M → Grow I0 H0 adr0 II H adr → R (.ok (.ret u)) s) :
    ∀ (r j i : Nat) (s : Shared) (II H : Hp) (adr : List Addr) (vb : Value) (pb : Addr) (c : Nat) (oI : Obj) (xb : V), xs.length - (j + 1) = r → j + 1 ≤ xs.length → Inv X pins σ H s → Stt II H adr σ E M → Grow I0 H0 adr0 II H adr → Kn X f of H s →
      Kn X S (seqObj "list" #[vb, .ref pb] c) H s → Kn X it oI H s → FpOk X pins H S → FpOk X pins H it → s.heap.IsListIter it l (j + 1) → xs[i]? = some xb → RelV xb vb → II pb = some (.tup [.int (ka i), .int (kb i)]) → i ≤ j → kBest ka kb (j + 1) i →
      codeAny (model X.prog X.w) X.A (.builtin "min.loop" ⟨[.ref it, .ref f, .ref S], []⟩) R s := by
  have nm : (toString "min" ++ toString ".loop" : String) = "min.loop" := by decide
  intro r
  induction r with
  | zero =>
    intro j i s II H adr vb pb c oI xb hr hj J st g kf kS kI fS fI hit hx rx hpb hij hb
    have eL : j + 1 = xs.length := by omega
    have hlH : H l = some (.lst xs) := st.ex _ _ (g.ex _ _ hl)
    obtain ⟨_, us, n, ru, gl⟩ := (show ObjOk X.prog X.w H s.heap l (.lst xs) from J.hok l _ hlH)
    have nlI : l ≠ it := ne_of_none hlH kI.non
    have W := Walks.list (prog := X.prog) (w := X.w) (A := X.A.in1) hh it l nlI us.toArray
    have zs : us.toArray.size = xs.length := by rw [List.size_toArray]; exact ru.length.symm
    refine codeAny_builtin PySem.F.entry_min_loop (Around.under_plainId PySem.F.plain_min_loop _ ▸ ?_)
    refine (show wpAny _ X.A.in1 (seqItems? (.ref S) >>= _) _ _ s from wpAny_bind (wpAny_seqItems kS.get rfl ?_))
    refine (show wpAny _ X.A.in1 (tryCatch (pyNext (.ref it)) _ >>= _) _ _ s from wpAny_bind (wpAny_tryCatch (W.done _ _ _ ⟨by rw [zs, ← eL]; exact hit, _, gl, rfl, n, rfl⟩ fun h1 tk1 k1 => ?_)))
    have gS1 := k1 S _ (by simpa using hSI) kS.get
    refine (show wpAny _ X.A.in1 (updateSeq S (fun _ => #[]) >>= _) _ _ _ from wpAny_bind (wpAny_updateSeq gS1 rfl (wpAny_bind (wpAny_letGo (wpAny_pure ?_)))))
    have sb := Heap.SameBut.update h1 S (Obj.mapSeq fun _ => (#[] : Array Value))
    have J1 := turnedAt (h' := h1) (t' := tk1) J fI fun b o hb e => k1 b o (by simpa using hb) e
    have J2 := turnedAt (h' := h1.update S (Obj.mapSeq fun _ => (#[] : Array Value))) (t' := tk1) J1 fS fun b o hb e => (sb.2 b hb).trans e
    exact hR i xb vb _ II H adr hx rx (eL ▸ hb) J2 st g
  | succ r ih =>
    intro j i s II H adr vb pb c oI xb hr hj J st g kf kS kI fS fI hit hx rx hpb hij hb
    have hlt : j + 1 < xs.length := by omega
    have hlH : H l = some (.lst xs) := st.ex _ _ (g.ex _ _ hl)
    obtain ⟨_, us, n, ru, gl⟩ := (show ObjOk X.prog X.w H s.heap l (.lst xs) from J.hok l _ hlH)
    have nlI : l ≠ it := ne_of_none hlH kI.non
    have W := Walks.list (prog := X.prog) (w := X.w) (A := X.A.in1) hh it l nlI us.toArray
    have zs : us.toArray.size = xs.length := by rw [List.size_toArray]; exact ru.length.symm
    refine codeAny_builtin PySem.F.entry_min_loop (Around.under_plainId PySem.F.plain_min_loop _ ▸ ?_)
    refine (show wpAny _ X.A.in1 (seqItems? (.ref S) >>= _) _ _ s from wpAny_bind (wpAny_seqItems kS.get rfl ?_))
    refine (show wpAny _ X.A.in1 (tryCatch (pyNext (.ref it)) _ >>= _) _ _ s from wpAny_bind (wpAny_tryCatch (W.item (j + 1) _ _ _ (by rw [zs]; exact hlt) ⟨hit, _, gl, rfl, n, rfl⟩ fun v h1 tk1 hv st1 k1 => ?_)))
    obtain ⟨oJ, hoJ, cJ, dJ⟩ := id st1.1
    obtain ⟨y, hy⟩ : ∃ y, xs[j + 1]? = some y := ⟨_, List.getElem?_eq_getElem hlt⟩
    have ry : RelV y v := by
      obtain ⟨v', e1, e2⟩ := ru.get hy
      have e3 : us[j + 1]? = some v := by simpa using hv
      rw [e1] at e3
      cases e3
      exact e2
    have J1 := turnedAt (h' := h1) (t' := tk1) J fI fun b o hb e => k1 b o (by simpa using hb) e
    have kf1 : Kn X f of H { s with heap := h1, toks := tk1 } := kf.mv fun e => k1 f of (by simpa using hfI) e
    have kS1 : Kn X S (seqObj "list" #[vb, .ref pb] c) H { s with heap := h1, toks := tk1 } := kS.mv fun e => k1 S _ (by simpa using hSI) e
    have kI1 : Kn X it oJ H { s with heap := h1, toks := tk1 } := ⟨hoJ, kI.non, kI.nfr⟩
    refine (show wpAny _ X.A.in1 (tryCatch (holding [v] (call (.ref f) [v])) _ >>= _) _ _ _ from wpAny_bind (wpAny_tryCatch (wpAny_holding (wpAny_mono (T (j + 1) y v _ II H adr hy ry J1 st g kf1) (fun w2 s2 he => ?_) fun _ _ hF => hF.elim))))
    obtain ⟨p, I2, H2, adr2, rfl, J2, st2, g2, hp2, un2⟩ := he
    have kf2 := kf1.past un2
    have kS2 := kS1.past un2
    have kI2 := kI1.past un2
    have fS2 := fpPast fS kS2.non
    have fI2 := fpPast fI kI2.non
    have hit2 : s2.heap.IsListIter it l (j + 1 + 1) := ⟨oJ, kI2.get, cJ, dJ⟩
    have hpb2 : I2 pb = some (.tup [.int (ka i), .int (kb i)]) := g2.ex _ _ hpb
    have RC := pair_lt J2 (st2.ex _ _ hp2) (st2.ex _ _ hpb2) hu
    refine (show wpAny _ X.A.in1 (tryCatch (holding [v, .ref p] (richCompare .Lt (.ref p) (.ref pb) >>= _)) _ >>= _) _ _ _ from wpAny_bind (wpAny_tryCatch (wpAny_holding (wpAny_bind (RC X.prog X.w _ _ ?_)))))
    refine wpAny_bind (wpAny_holding (wpAny_truthy_bool (wpAny_bind (wpAny_letGo (wpAny_pure ?_)))))
    by_cases hc : kLess ka kb (j + 1) i
    · have hd : decide (ka (j + 1) < ka i ∨ (ka (j + 1) = ka i ∧ kb (j + 1) < kb i)) = true := decide_eq_true hc
      simp only [hd, if_true]
      have sb := Heap.SameBut.update s2.heap S (Obj.mapSeq fun _ => #[v, .ref p])
      obtain ⟨c2, gS2⟩ := up_get kS2.get #[v, .ref p]
      refine wpAny_bind (wpAny_updateSeq kS2.get rfl (wpAny_bind (wpAny_letGo ?_)))
      rw [nm]
      have J3 := turnedAt (h' := s2.heap.update S (Obj.mapSeq fun _ => #[v, .ref p])) (t' := s2.toks) J2 fS2 fun b o hb e => (sb.2 b hb).trans e
      refine wpAny_pure ⟨plainId_quiet PySem.F.plain_min_loop _, ih (j + 1) (j + 1) _ I2 H2 adr2 v p c2 oJ y (by omega) hlt J3 st2 (g.trans g2) (kf2.mv fun e => (sb.2 f hfS).trans e) ⟨gS2, kS2.non, kS2.nfr⟩ (kI2.mv fun e => (sb.2 it hSI.symm).trans e) fS2 fI2
        ⟨oJ, (sb.2 it hSI.symm).trans kI2.get, cJ, dJ⟩ hy ry hp2 (Nat.le_refl _) fun j' hj' => ?_⟩
      unfold kBest kLess at *
      by_cases e : j' = j + 1
      · subst e
        omega
      · have h1 := hb j' (by omega)
        omega
    · have hd : decide (ka (j + 1) < ka i ∨ (ka (j + 1) = ka i ∧ kb (j + 1) < kb i)) = false := decide_eq_false hc
      simp only [hd, Bool.false_eq_true, if_false]
      refine wpAny_bind (wpAny_letGo ?_)
      rw [nm]
      refine wpAny_pure ⟨plainId_quiet PySem.F.plain_min_loop _, ih (j + 1) i _ I2 H2 adr2 vb pb c oJ xb (by omega) hlt J2 st2 (g.trans g2) kf2 kS2 kI2 fS2 fI2 hit2 hx rx hpb2 (by omega) fun j' hj' => ?_⟩
      by_cases e : j' = j + 1
      · subst e
        exact ⟨hc, fun z => by omega⟩
      · exact hb j' (by omega)
theorem min_call {Q : Value → Shared → Prop} {Er : Value → Shared → Prop} (hh : X.A.handled = none) (hu : X.A.in1.units < cLine) (T : KeyRun X pins σ E M I0 H0 adr0 f of xs ka kb) (hl : I0 l = some (.lst xs)) (hn : 0 < xs.length) (J : Inv X pins σ H s) (st : Stt II H adr σ E M) (g : Grow I0 H0 adr0 II H adr) (kf : Kn X f of H s)
    (hQ : ∀ (i : Nat) (x : V) (u : Value) (s : Shared) (II H : Hp) (adr : List Addr), xs[i]? = some x → RelV x u → kBest ka kb xs.length i → Inv X pins σ H s → Stt II H adr σ E M → Grow I0 H0 adr0 II H adr → Q u s) :
    wpAny (model X.prog X.w) X.A (call (.builtin "min") [.ref l] [(Str.ofString "key", .ref f)]) Q Er s := by
  have nm : (toString "min" ++ toString ".loop" : String) = "min.loop" := by decide
  have hlH : H l = some (.lst xs) := st.ex _ _ (g.ex _ _ hl)
  obtain ⟨_, us, n, ru, gl⟩ := (show ObjOk X.prog X.w H s.heap l (.lst xs) from J.hok l _ hlH)
  refine kmk_tree PySem.F.kind_min PySem.F.plain_min PySem.F.entry_min (kmk_min_key _ _) ?_
  refine (show wpAny _ X.A.in1 (Builtin.Builtins.bindParams "min" ["key", "default"] 0 ⟨[], [(Str.ofString "key", .ref f)]⟩ >>= _) _ _ s from wpAny_bind (wpAny_of_eq (show Builtin.Builtins.bindParams "min" ["key", "default"] 0 ⟨[], [(Str.ofString "key", Value.ref f)]⟩ = pure [some (.ref f), none] from rfl) (wpAny_bind (wpAny_pure ?_))))
  have isl : s.heap.IsList l us.toArray := ⟨_, gl, rfl, n, rfl⟩
  refine wpAny_bind (wpAny_pyIter_list isl (wpAny_bind (wpAny_newList ?_ (Nat.zero_le _))))
  rw [nm]
  generalize eh1 : s.heap.push { cls := .type "list_iterator", data := .fields #[.ref l, .int 0 0] } = h1
  have z1 : h1.objs.size = s.heap.objs.size + 1 := by rw [← eh1]; exact size_push' ..
  have kp1 : ∀ b o, s.heap.get? b = some o → h1.get? b = some o := fun b o e => by rw [← eh1]; exact Heap.get?_push_of_some _ e
  have gI1 : h1.get? s.heap.objs.size = some { cls := .type "list_iterator", data := .fields #[.ref l, .int 0 0] } := by rw [← eh1]; exact Heap.get?_push_size _ rfl
  generalize eh2 : h1.push (seqObj "list" #[] 0) = h2
  have kp2 : ∀ b o, h1.get? b = some o → h2.get? b = some o := fun b o e => by rw [← eh2]; exact Heap.get?_push_of_some _ e
  have gS2 : h2.get? h1.objs.size = some (seqObj "list" #[] 0) := by rw [← eh2]; exact Heap.get?_push_size _ rfl
  have eS : h1.objs.size ≠ s.heap.objs.size := by omega
  have kp : ∀ b o, s.heap.get? b = some o → h2.get? b = some o := fun b o e => kp2 b o (kp1 b o e)
  have lf : f < s.heap.objs.size := Heap.lt_size kf.get
  have ll : l < s.heap.objs.size := Heap.lt_size gl
  have nfS : f ≠ h1.objs.size := Nat.ne_of_lt (by rw [z1]; exact Nat.lt_succ_of_lt lf)
  refine wpAny_pure ⟨plainId_quiet PySem.F.plain_min_loop _, ?_⟩
  have J2 : Inv X pins σ H { s with heap := h2 } := J.kept (t' := s.toks) kp
  have nI : H s.heap.objs.size = none := J.hok.fresh (Nat.le_refl _)
  have nS : H h1.objs.size = none := J.hok.fresh (by omega)
  have fI : FpOk X pins H s.heap.objs.size := J.fpOk (Nat.le_refl _) nI
  have fS : FpOk X pins H h1.objs.size := J.fpOk (by omega) nS
  have nofr : ∀ b, s.heap.objs.size ≤ b → b ∉ frs X.stack := fun b hb z => by
    rcases List.mem_cons.mp (J.stkSub _ z) with e | e
    · exact Nat.lt_irrefl _ (Nat.lt_of_lt_of_le (e ▸ J.lt) hb)
    · exact J.nofs hb e
  have kI2 : Kn X s.heap.objs.size _ H { s with heap := h2 } := ⟨kp2 _ _ gI1, nI, nofr _ (Nat.le_refl _)⟩
  have kS2 : Kn X h1.objs.size _ H { s with heap := h2 } := ⟨gS2, nS, nofr _ (by omega)⟩
  have kf2 : Kn X f of H { s with heap := h2 } := kf.mv fun e => kp _ _ e
  have W := Walks.list (prog := X.prog) (w := X.w) (A := X.A.in1) hh s.heap.objs.size l (Nat.ne_of_lt ll) us.toArray
  have zs : us.toArray.size = xs.length := by rw [List.size_toArray]; exact ru.length.symm
  refine codeAny_builtin PySem.F.entry_min_loop (Around.under_plainId PySem.F.plain_min_loop _ ▸ ?_)
  refine (show wpAny _ X.A.in1 (seqItems? (.ref h1.objs.size) >>= _) _ _ _ from wpAny_bind (wpAny_seqItems gS2 rfl ?_))
  refine (show wpAny _ X.A.in1 (tryCatch (pyNext (.ref s.heap.objs.size)) _ >>= _) _ _ _ from wpAny_bind (wpAny_tryCatch (W.item 0 _ _ _ (by rw [zs]; exact hn) ⟨⟨_, kI2.get, rfl, rfl⟩, ⟨_, kp _ _ gl, rfl, n, rfl⟩⟩ fun v h3 tk3 hv st3 k3 => ?_)))
  obtain ⟨oJ, hoJ, cJ, dJ⟩ := id st3.1
  obtain ⟨y, hy⟩ : ∃ y, xs[0]? = some y := ⟨_, List.getElem?_eq_getElem hn⟩
  have ry : RelV y v := by
    obtain ⟨v', e1, e2⟩ := ru.get hy
    have e3 : us[0]? = some v := by simpa using hv
    rw [e1] at e3
    cases e3
    exact e2
  have J3 := turnedAt (h' := h3) (t' := tk3) J2 fI fun b o hb e => k3 b o (by simpa using hb) e
  have kf3 : Kn X f of H { s with heap := h3, toks := tk3 } := kf2.mv fun e => k3 f of (by simpa using Nat.ne_of_lt lf) e
  have kS3 : Kn X h1.objs.size (seqObj "list" #[] 0) H { s with heap := h3, toks := tk3 } := kS2.mv fun e => k3 _ _ (by simp; omega) e
  have kI3 : Kn X s.heap.objs.size oJ H { s with heap := h3, toks := tk3 } := ⟨hoJ, nI, kI2.nfr⟩
  refine (show wpAny _ X.A.in1 (tryCatch (holding [v] (call (.ref f) [v])) _ >>= _) _ _ _ from wpAny_bind (wpAny_tryCatch (wpAny_holding (wpAny_mono (T 0 y v _ II H adr hy ry J3 st g kf3) (fun w2 s2 he => ?_) fun _ _ hF => hF.elim))))
  obtain ⟨p, I4, H4, adr4, rfl, J4, st4, g4, hp4, un4⟩ := he
  have kf4 := kf3.past un4
  have kS4 := kS3.past un4
  have kI4 := kI3.past un4
  have fS4 := fpPast fS kS4.non
  have fI4 := fpPast fI kI4.non
  have sb := Heap.SameBut.update s2.heap h1.objs.size (Obj.mapSeq fun _ => #[v, .ref p])
  obtain ⟨c2, gS4⟩ := up_get kS4.get #[v, .ref p]
  refine (show wpAny _ X.A.in1 (updateSeq h1.objs.size (fun _ => #[v, .ref p]) >>= _) _ _ _ from wpAny_bind (wpAny_updateSeq kS4.get rfl ?_))
  rw [nm]
  have J5 := turnedAt (h' := s2.heap.update h1.objs.size (Obj.mapSeq fun _ => #[v, .ref p])) (t' := s2.toks) J4 fS4 fun b o hb e => (sb.2 b hb).trans e
  refine wpAny_pure ⟨plainId_quiet PySem.F.plain_min_loop _, min_loop hh hu T hl eS (Nat.ne_of_lt lf) nfS (fun i x u s II H adr a b c d e f => hQ i x u s II H adr a b c d e f) _ 0 0 _ I4 H4 adr4 v p c2 oJ y rfl hn J5 st4 (g.trans g4) (kf4.mv fun e => (sb.2 f nfS).trans e) ⟨gS4, kS4.non, kS4.nfr⟩
    (kI4.mv fun e => (sb.2 _ eS.symm).trans e) fS4 fI4 ⟨oJ, (sb.2 _ eS.symm).trans kI4.get, cJ, dJ⟩ hy ry hp4 (Nat.le_refl _) fun j' hj' => ?_⟩
  have e : j' = 0 := by omega
  subst e
  exact ⟨by unfold kLess; omega, fun h => by omega⟩
end
end Ab
/-! Ab: a lambda of one parameter as a key. -/
namespace Ab
open PySem PySem.Spec PyProof.Rows L2 NdefX LamX
variable [TabCtx]
abbrev lamC (g : Pg) (N : List Str) (scope : Scope) (k : Nat) : Cc := ⟨g, N, scope, fun _ => false, k, W0, none⟩
/-- the slots of the lambda's body -/
def lamE (N : List Str) (o : O) (cs : List O) : List O := o :: (cs ++ List.replicate (N.length - 1 - cs.length) .no)
section
variable {C : Cc} {X : Cx} {pins : List (Addr × Obj)} {σ : L2.St} {E cs : List O} {M : Mem} {I0 H0 II H : Hp} {adr0 adr : List Addr} {s : Shared} {f c' : Addr} {xs : List V} {ds : List D} {ka kb : Nat → Int} {N fr : List Str} {p : Str} {js : List Nat} {k : Nat}
  {params : Arguments} {body : Expr} {scope : Scope} {pm ctv : Value} {qual : Str}
theorem key_run (hX : CxIs C X) (hr : Room (k + 2) X.A) (SN : NScope N [p] fr scope) (hb : ∀ (pm cd ct u : Value) (q : Str) (cl : List (Str × Addr)), bindArgs (PySem.W.kla_fn "<lambda>" q params body scope cl pm cd ct) ⟨[u], []⟩ = pure [(p, u)])
    (hfree : ∀ y ∈ scope.names, y.2 = .free → X.env.scope.names.lookup y.1 = some .cell ∨ X.env.scope.names.lookup y.1 = some .free) (hfr : ∀ y ∈ fr, (y, NameKind.free) ∈ scope.names) (hjs : js.map (fun j => X.N[j]?) = fr.map some)
    (hcs : js.map (fun j => E[j]?) = cs.map some) (hc0 : H0 c' = some (CodeO c' qual)) (hxs : Reps I0 ds xs)
    (hbody : ∀ (j : Nat) (d : D), ds[j]? = some d → EV (lamC C.g N scope k) body (lamE N (.dat d) cs) M (.dat (.tup [.int (ka j), .int (kb j)])) M) :
    KeyRun X pins σ E M I0 H0 adr0 f (PySem.W.kla_obj "<lambda>" qual params body scope (cloFrom X.env.cells scope.names []) pm c' ctv) xs ka kb := by
  intro j x u s II H adr hx ru J st g kf
  have caps : Caps X (cloFrom X.env.cells scope.names []) fr js := Caps.made J.ok hfree hfr hjs
  have hcl : js.length = fr.length := by
    have := congrArg List.length hjs
    simpa using this
  have hcn : cs.length = fr.length := by
    have := congrArg List.length hcs
    simp at this
    omega
  have hc : H c' = some (CodeO c' qual) := g.code _ _ hc0
  let F : NF := ⟨"<lambda>", qual, params, [], scope, cloFrom X.env.cells scope.names [], c'⟩
  obtain ⟨d, hd, rd⟩ : ∃ d, ds[j]? = some d ∧ Rep II d x := by
    have hj : j < ds.length := by
      rw [hxs.length]
      exact (List.getElem?_eq_some_iff.mp hx).1
    obtain ⟨v, e1, e2⟩ := hxs.get (List.getElem?_eq_getElem hj)
    rw [hx] at e1
    cases e1
    exact ⟨_, List.getElem?_eq_getElem hj, e2.mono g.ex⟩
  refine wpAny_call (A := X.A.in1) ?_
  have key : codeAny (model X.prog X.w) X.A.in1 (.call (.ref f) ⟨[u], []⟩) (CR CX0 X.stack X.prog X.w H s (fun v H' => ∃ p I' adr', v = .ref p ∧ Stt I' H' adr' σ E M ∧ Grow II H adr I' H' adr' ∧ I' p = some (.tup [.int (ka j), .int (kb j)])) (fun _ _ _ => False)) s := by
    refine PySem.W.kla_callFunE hr.in1.depth kf.get rfl SN.co SN.gen rfl (codeO_at J.hok hc) ?_
    rw [hb]
    refine wpAny_pure (wpAny_newFunctionEnv SN.nocell (fun y hy => ?_) (fun h₁ hns hsb => ⟨J.nolimit.fresh _ hsb, ?_⟩) SN.kind)
    · have e : y = (p, u) := by simpa using hy
      subst e
      exact SN.par p (by simp)
    show codeAny _ _ (.expr body (envF F f s.heap.objs.size)) _ _
    have kp : ∀ b o, s.heap.get? b = some o → h₁.get? b = some o := fun b o e => hsb.extBut b o (Nat.ne_of_lt (Heap.lt_size e)) (Heap.get?_push_of_some _ e)
    have hr2 : Room k (X.A.in1.deeper (envF F f s.heap.objs.size)) := hr.in1.deeper _
    have IN : Inv (ncx CX0 X.prog X.w X.K X.mg X.base N F f X.A.in1 X.stack s H (fun _ _ _ => False)) [] (startF N [x] (js.map (slotAt σ))) H { s with heap := h₁, toks := s.toks + [(p, u)].length } :=
      inv_startN (F := F) (us := [u]) SN hr.in1.hd J.env0.in1 rfl (.cons ru .nil) (cells_of J caps) hns kp
    have hX' : CxIs (lamC C.g N scope k) (ncx CX0 X.prog X.w X.K X.mg X.base N F f X.A.in1 X.stack s H (fun _ _ _ => False)) :=
      ⟨hX.P, hX.w, hX.K, hX.mg, hX.base, rfl, rfl, rfl, hr2, passes_of rfl, takes0, fun x z => (by cases z), fun _ _ z => (by cases z), ⟨_, _, rfl, SN.gen, SN.co, rfl, rfl⟩⟩
    have st' : Stt II H adr (startF N [x] (js.map (slotAt σ))) (lamE N (.dat d) cs) M := by
      refine ⟨st.ex, st.sto, ?_, fun i o ov h1 h2 => ?_⟩
      · unfold lamE startF
        simp
        omega
      · unfold lamE at h1
        unfold startF at h2
        match i with
        | 0 =>
          simp at h1 h2
          subst h1
          subst h2
          exact rd
        | i + 1 =>
          simp only [List.map_cons, List.map_nil, List.cons_append, List.nil_append, List.getElem?_cons_succ] at h1 h2
          by_cases hi : i < cs.length
          · rw [List.getElem?_append_left hi] at h1
            rw [List.getElem?_append_left (by rw [List.length_map, hcl, ← hcn]; exact hi), List.getElem?_map] at h2
            have e := congrArg (fun l => l[i]?) hcs
            simp only [List.getElem?_map] at e
            rw [h1] at e
            cases ej : js[i]? with
            | none => rw [ej] at e; cases e
            | some jj =>
              rw [ej] at e h2
              have e1 : E[jj]? = some o := Option.some.inj e
              have e2 : slotAt σ jj = ov := Option.some.inj h2
              have hl : jj < σ.length := by
                rw [← st.len]
                exact (List.getElem?_eq_some_iff.mp e1).1
              have e3 := st.slot jj o σ[jj] e1 (List.getElem?_eq_getElem hl)
              have e4 : slotAt σ jj = σ[jj] := by
                unfold NdefX.slotAt
                rw [List.getElem?_eq_getElem hl]
              rw [← e2, e4]
              exact e3
          · rw [List.getElem?_append_right (Nat.le_of_not_lt hi)] at h1
            have e : o = .no := List.eq_of_mem_replicate (List.mem_of_getElem? h1)
            subst e
            cases ov with
            | none => rfl
            | some w => exact True.intro
    refine PySem.W.kla_codeExpr (wpAny_mono ((ue hX' body).run [] _ _ H (fun v H' => ∃ p I' adr', v = .ref p ∧ Stt I' H' adr' σ E M ∧ Grow II H adr I' H' adr' ∧ I' p = some (.tup [.int (ka j), .int (kb j)])) IN (hbody j d hd II H adr _ _ st' fun v I' H' adr' s' g' v' => ?_)) (fun v s' hq => ?_) fun e s' hq => hq)
    · cases (show Rep I' (.tup [.int (ka j), .int (kb j)]) v from v') with
      | tup h r =>
      cases r with
      | cons r1 r =>
      cases r with
      | cons r2 r =>
      cases r
      cases r1
      cases r2
      exact ⟨_, I', adr', rfl, st.mono g' s'.ex s'.sto, g', h⟩
    · obtain ⟨w', H', J', rv, q⟩ := hq
      exact ⟨w', H', J'.os, J'.bare, J'.base, J'.hok, rv, q⟩
  refine codeAny_mono key fun r s' hq => ?_
  cases r with
  | error e => exact hq.elim
  | ok fl =>
    cases fl with
    | next => exact False.elim hq
    | brk => exact False.elim hq
    | cont => exact False.elim hq
    | ret v =>
      obtain ⟨w', H', os, bare, un, hok, rv, pp, I', adr', rfl, st2, g2, hp⟩ := hq
      obtain ⟨hh, gg, d, t, os'⟩ := s'
      obtain rfl : os' = s.os := os
      exact ⟨pp, I', H', adr', rv, J.call (h' := hh) (g' := gg) (d' := d) (t' := t) (ch := []) un hok bare (fun b z => absurd z (by simp)), st2, g2, hp, un⟩
end
end Ab
/-! Ab: min with a key, large quotients, objects whose fields are cells. -/
namespace Ab
open PySem PySem.Spec PyProof.Rows L2 NdefX LamX
variable [TabCtx]
section
variable {C : Cc} {E E1 E2 E' cs : List O} {M M1 M2 M3 M' : Mem} {o o1 o2 o3 : O} {os : List O} {e a b c tg iter body : Expr} {es : List Expr} {pos pos' p kp lpos apos : Pos} {d d1 d2 : D} {ds : List D} {i j : Int} {r : Out}
theorem Stt.extN {I H H2 : Hp} {adr : List Addr} {σ : L2.St} (s : Stt I H adr σ E M) (e : ExtN H H2) (t : Tabs TabCtx.T H2) : Stt I H2 adr σ E M ∧ Grow I H adr I H2 adr := by
  have g : Grow I H adr I H2 adr := ⟨Ex.refl _, ⟨[], by simp, by simp⟩, fun q u h n _ => e q u h n, fun q u h n => ⟨u, e q u h n, n⟩, fun _ _ _ _ h _ => h, fun c q h => e _ _ h codeO_ne⟩
  refine ⟨s.mono g (fun q u h => e q u (s.ex q u h) (s.sto.amb.nt q u h)) ⟨s.sto.len, s.sto.nd, fun k a os h1 h2 => ?_, fun k a h => ?_, ⟨t, s.sto.amb.nt⟩⟩, g⟩
  · obtain ⟨c1, xs, c2, c3⟩ := s.sto.cell k a os h1 h2
    exact ⟨c1, xs, e _ _ c2 NT.lst, c3⟩
  · obtain ⟨u, hu, n⟩ := s.sto.dom k a h
    exact ⟨u, e _ _ hu n, n⟩
theorem kBest_uniq {ka kb : Nat → Int} {n i j : Nat} (h1 : kBest ka kb n i) (h2 : kBest ka kb n j) (hi : i < n) (hj : j < n) : i = j := by
  rcases Nat.lt_trichotomy i j with h | h | h
  · exact absurd ((h2 i hi).2 h) (h1 j hj).1
  · exact h
  · exact absurd ((h1 j hj).2 h) (h2 i hi).1
/-- min(list, key=lambda x: a pair) -/
theorem EV.minKey {q x : Str} {cA P : Addr} {N fr : List Str} {pn : Str} {js : List Nat} {k n : Nat} {ka kb : Nat → Int} {params : Arguments} {scope : Scope} {lb : Expr}
    (hl : EV C e E M (.dat (.lst ds)) M) (hcd : C.cd = some (.ref cA, q)) (TB : TabB C.g.base C.g.mg cA P) (hmT : (P, q ++ "<lambda>") ∈ TabCtx.T) (hu : ∀ p ∈ TabCtx.T, p.1 = P → p.2 = q ++ "<lambda>") (SN : NScope N [pn] fr scope) (hnd : ndefB C.sc scope fr = true)
    (hb : ∀ (pm cd ct u : Value) (q : Str) (cl : List (Str × Addr)), bindArgs (PySem.W.kla_fn "<lambda>" q params lb scope cl pm cd ct) ⟨[u], []⟩ = pure [(pn, u)])
    (hjs : js.map (fun j => C.N[j]?) = fr.map some) (hcs : js.map (fun j => E[j]?) = cs.map some) (hk : k + 2 ≤ C.k)
    (hbody : ∀ (j : Nat) (d : D), ds[j]? = some d → EV (lamC C.g N scope k) lb (lamE N (.dat d) cs) M (.dat (.tup [.int (ka j), .int (kb j)])) M)
    (hbest : kBest ka kb ds.length n) (hd : ds[n]? = some d) (hm : Bt C.g "min") (hx : x = "min" := by rfl) (hg : C.sc.names.lookup x = some .globalImplicit := by rfl)
    (hdef : ∀ env, defaultsOf params env = ([], []) := by intro _; rfl) (hs : ∀ env, starEach [e] env = (false, eval e env) :: starEach [] env := by intro _; rfl)
    (he : ∀ env, backTo pos (starEach [e] env) = (false, eval e env) :: backTo pos (starEach [] env) := by intro _; rfl)
    (hpl : ∀ env, (backTo pos (starEach [e] env)).any (·.1) = false := by intro _; rfl) :
    EV C (.Call (.Name x p) [e] [⟨some "key", .Lambda params lb scope lpos, kp⟩] pos) E M (.dat d) M := by
  subst hx
  refine EV.mk (t := fun σ H Q => ∃ I adr, Stt I H adr σ E M ∧ ∀ v I' H' adr', Stt I' H' adr' σ E M → Grow I H adr I' H' adr' → Vo I' adr' (.dat d) v → Q v H') (fun X hX => ⟨fun pins s σ H Q J h => ?_⟩) fun I H adr σ Q s q => ⟨I, adr, s, q⟩
  obtain ⟨I, adr, st, hq⟩ := h
  obtain ⟨hc1, hc2⟩ := hX.cd _ _ hcd
  refine wpAny_Call_Name_kw (ld_blt J (by show X.env.scope.names.lookup _ = _; rw [hX.sc]; exact hg) (by rw [hX.mg]; exact hm) boot_min ?_ (by decide) (by decide))
  refine callWith_kw ?_ (he X.env) (hpl X.env) rfl rfl
  refine thn ((pa_cons (ue hX e) pa_nil (hs X.env)).run pos pins s σ H (fun vs H1 => ∃ I1 adr1 l xs, vs = [V.ref l] ∧ Stt I1 H1 adr1 σ E M ∧ Grow I H adr I1 H1 adr1 ∧ I1 l = some (.lst xs) ∧ Reps I1 ds xs) J (hl I H adr σ _ st fun v I1 H1 adr1 s1 g1 v1 => ?_)) fun us s1 hv => ?_
  · cases (show Rep I1 (.lst ds) v from v1) with
    | lst h r => exact ⟨I1, adr1, _, _, rfl, s1, g1, h, r⟩
  obtain ⟨vs, H1, J1, rv, I1, adr1, l, xs, rfl, s1', g1, hl1, hr1⟩ := hv
  cases rv with
  | cons r0 rv =>
  cases rv
  obtain rfl := (show _ = Value.ref l from r0)
  have hfree := ndef_free hnd
  have hfree' : ∀ y ∈ scope.names, y.2 = .free → ∃ c, X.env.cells.lookup y.1 = some c := fun y hy e => by
    have z := hfree y hy e
    rw [← hX.sc] at z
    exact z.elim (fun z => J1.ok.has _ (.inl z)) fun z => J1.ok.has _ (.inr z)
  refine kws_cons (lam_make2 (T := TabCtx.T) J1 (by rw [hX.base, hX.mg]; exact TB) hc1 (by rw [hc2]; exact hmT) (by rw [hc2]; exact hu) s1'.sto.amb.tabs (hdef X.env) hfree' fun f c' pm ctv H2 s2 J2 eN T2 gf nf ff hco => kws_nil ?_)
  obtain ⟨st2, g2⟩ := s1'.extN eN T2
  have hR : Room (k + 2) X.A := hX.room.mono hk
  have hn : n < xs.length := by
    rw [← hr1.length]
    exact (List.getElem?_eq_some_iff.mp hd).1
  have T := key_run (k := k) (C := C) (E := E) (M := M) (pins := pins) (σ := σ) (I0 := I1) (H0 := H2) (adr0 := adr1) (f := f) (xs := xs) (ds := ds) (ka := ka) (kb := kb) (N := N) (fr := fr) (p := pn) (js := js) (cs := cs) (params := params) (body := lb) (scope := scope) (pm := pm) (ctv := ctv) (qual := X.env.qual ++ "<lambda>") (c' := c')
    hX hR SN hb (by rw [hX.sc]; exact hfree) (ndef_fr hnd) (by rw [hX.N]; exact hjs) hcs hco hr1 hbody
  refine min_call hR.hd (by have := hR.un; show X.A.units + 1 < cLine; omega) T hl1 (by omega) J2 st2 Grow.refl ⟨gf, nf, ff⟩ fun i x u s3 I3 H3 adr3 hx ru hb3 J3 st3 g3 => ?_
  rw [← hr1.length] at hb3
  have hi : i < ds.length := by
    rw [hr1.length]
    exact (List.getElem?_eq_some_iff.mp hx).1
  have e := kBest_uniq hb3 hbest hi (by rw [hr1.length]; exact hn)
  subst e
  obtain ⟨x', e1, e2⟩ := hr1.get hd
  rw [hx] at e1
  cases e1
  exact ⟨x, H3, J3, ru, hq x I3 H3 adr3 st3 ((g1.trans g2).trans g3) (e2.mono g3.ex)⟩
/-! ### quotients of any size -/
theorem op_fdivX {X : Cx} (hX : CxIs C X) (ns : C.g.base.NoSeer) (ht : C.g.P.given.tree = none) (hk : 32 ≤ C.k) : OpR X (binaryOp .FloorDiv) (rI (fun _ j => j ≠ 0) fun i j => .int (i.fdiv j)) := by
  intro pins s σ H x y v u Q J rx ry h
  obtain ⟨i, j, rfl, rfl, hc, q⟩ := h
  obtain ⟨t, rfl⟩ := rx
  obtain ⟨t', rfl⟩ := ry
  obtain ⟨env, l, e1, e2, e3, e4, e5⟩ := hX.fr
  refine floordiv_int hc ⟨.int (i.fdiv j), H, J.tok _, ⟨_, rfl⟩, q⟩ (.inr (PySem.PylongRoom.of J.nolimit ?_ (PySem.SeerAt.of (env := env) (l := l) ?_ ?_ ?_ e2 e3 e4 e5)))
  · have := hX.room.dp
    show X.A.depth + 100 < recursionLimit
    omega
  · have : X.base.NoSeer := by rw [hX.base]; exact ns
    exact this.keeps J.bk
  · show X.prog.given.tree = none
    rw [hX.P]
    exact ht
  · rw [J.ok.frames, e1]
theorem BS.fdivX (ns : C.g.base.NoSeer) (ht : C.g.P.given.tree = none) (hj : j ≠ 0) (hk : Nat.ble 32 C.k = true := by rfl) : BS C .FloorDiv (.dat (.int i)) (.dat (.int j)) M (.dat (.int (i.fdiv j))) M :=
  ⟨_, fun X hX => op_fdivX hX ns ht (Nat.le_of_ble_eq_true hk), ro_I hj fun _ => .int _⟩
/-! ### objects whose fields are cells -/
abbrev FPair (adr : List Addr) : List (Str × Nat) → List (Str × V) → Prop := Paired fun (f : Str × Nat) (g : Str × V) => f.1 = g.1 ∧ ∃ a, adr[f.2]? = some a ∧ g.2 = .ref a
theorem fpLook {adr : List Addr} {f : Str} {k : Nat} : ∀ {fs : List (Str × Nat)} {gs : List (Str × V)}, FPair adr fs gs → fs.lookup f = some k → ∃ a, adr[k]? = some a ∧ gs.lookup f = some (.ref a)
  | _, _, .nil, h => by cases h
  | (x, n) :: fs, (y, v) :: gs, .cons q r, h => by
    obtain ⟨e, a, e1, e2⟩ := q
    obtain rfl : x = y := e
    by_cases hx : (f == x) = true
    · rw [List.lookup_cons, hx] at h
      rw [List.lookup_cons, hx]
      cases h
      exact ⟨a, e1, by rw [show v = V.ref a from e2]⟩
    · have hx' : (f == x) = false := by simpa using hx
      rw [List.lookup_cons, hx'] at h
      rw [List.lookup_cons, hx']
      exact fpLook r h
theorem fpNone {adr : List Addr} {f : Str} : ∀ {fs : List (Str × Nat)} {gs : List (Str × V)}, FPair adr fs gs → fs.lookup f = none → gs.lookup f = none
  | _, _, .nil, h => rfl
  | (x, n) :: fs, (y, v) :: gs, .cons q r, h => by
    obtain ⟨e, _⟩ := q
    obtain rfl : x = y := e
    by_cases hx : (f == x) = true
    · rw [List.lookup_cons, hx] at h
      cases h
    · have hx' : (f == x) = false := by simpa using hx
      rw [List.lookup_cons, hx'] at h
      rw [List.lookup_cons, hx']
      exact fpNone r h
theorem fpPut {adr : List Addr} {f : Str} {k : Nat} {a : Addr} (ha : adr[k]? = some a) : ∀ {fs : List (Str × Nat)} {gs : List (Str × V)}, FPair adr fs gs → fs.lookup f = none → FPair adr (fs ++ [(f, k)]) (putF f (.ref a) gs)
  | _, _, .nil, h => .cons ⟨rfl, a, ha, rfl⟩ .nil
  | (x, n) :: fs, (y, v) :: gs, .cons q r, h => by
    obtain ⟨e, e2⟩ := q
    obtain rfl : x = y := e
    by_cases hx : (f == x) = true
    · rw [List.lookup_cons, hx] at h
      cases h
    · have hx' : (f == x) = false := by simpa using hx
      rw [List.lookup_cons, hx'] at h
      show FPair adr ((x, n) :: (fs ++ [(f, k)])) (if x = f then (x, .ref a) :: gs else (x, v) :: putF f (.ref a) gs)
      rw [if_neg (fun z => by rw [z] at hx'; simp at hx')]
      exact .cons ⟨rfl, e2⟩ (fpPut ha r h)
theorem fpLen {adr : List Addr} {fs : List (Str × Nat)} {gs : List (Str × V)} (h : FPair adr fs gs) : fs.length = gs.length := Paired.length h
theorem EV.fld {Ca : Addr} {fs : List (Str × Nat)} {f : Str} {k : Nat} (he : EV C e E M (.obj Ca fs) M') (cl : Cls C.g.K Ca) (na : NoAttr C.g.K Ca f) (hl : fs.lookup f = some k := by rfl) (hb : ∀ env, attributeBase e f env (eval e env) = eval e env := by intro _; rfl) : EV C (.Attribute e f pos) E M (.adr k) M' :=
  EV.mk (t := tFld C.g.K (UE C e) f) (fun X hX => by
    have := pe_fld (f := f) (pos := pos) (ue hX e) (hb X.env)
    rw [hX.K] at this
    exact this) fun I H adr σ Q s q => he I H adr σ _ s fun v I1 H1 adr1 s1 g1 v1 => by
      obtain ⟨p, dx, gs, rfl, h2, h3⟩ := v1
      obtain ⟨a, e1, e2⟩ := fpLook h3 hl
      exact ⟨p, Ca, dx, gs, .ref a, rfl, s1.ex _ _ h2, cl, na, e2, q _ I1 H1 adr1 s1 g1 ⟨a, e1, rfl⟩⟩
/-- the method m keeps R -/
def MT (g : Pg) (Ca : Addr) (m : Str) (k : Nat) (R : Rel) : Prop := ∃ (f : Addr) (fd : FuncData) (ps : List Str), Meth g.K Ca m f ∧ FnOk g.P g.w g.K g.mg g.base CX0 k f fd ps (spR R) ∧ Binds g.K fd ps []
theorem EV.meth {Ca : Addr} {fs : List (Str × Nat)} {m : Str} {kf : Nat} {R : Rel} {os0 : List O} {o0 : O} {M0 M0' : Mem} {ι : List Nat} (F : MT C.g Ca m kf R) (ho : EV C a E M (.obj Ca fs) M1) (ha : EA C (e :: es) E M1 os M2) (cl : Cls C.g.K Ca) (hR : R os0 M0 o0 M0')
    (hos : .obj Ca fs :: os = os0.map (·.ren (rho ι M2.length))) (mx : Mix ι M2 M0 M0' M3) (hl : fs.lookup m = none := by rfl) (hk : Nat.ble kf C.k = true := by rfl)
    (hst : ∀ env, starEach (e :: es) env = (false, eval e env) :: starEach es env := by intro _; rfl) (hpl : ∀ env, (backTo pos (starEach es env)).any (·.1) = false := by intro _; rfl)
    (ht : ∀ env, ∃ pl : Sem Bool, eval (.Call (.Attribute a m apos) (e :: es) [] pos) env = (do
      let ov ← eval a env
      standAt apos.atName
      let (f, first) ← holding [ov] (getMethod ov m pl)
      callWith pos f first (backTo pos (starEach (e :: es) env)) (backToKw pos (keywordEach [] env))) := by intro _; exact ⟨_, rfl⟩) :
    EV C (.Call (.Attribute a m apos) (e :: es) [] pos) E M (o0.ren (rho ι M2.length)) M3 := by
  obtain ⟨f, fd, ps, hm, F, hb⟩ := F
  refine EV.mk (t := tMeth Ca m (spR R) [] E0 (UE C a) (UA C (e :: es))) (fun X hX => ?_) fun I H adr σ Q s q => ?_
  · obtain ⟨pl, hpl'⟩ := ht X.env
    exact pe_meth (pl := pl) (C := Ca) (k := kf) (f := f) (fd := fd) (ps := ps) (ue hX a) (by rw [hX.K]; exact cl) (by rw [hX.K]; exact hm) (by rw [hX.P, hX.w, hX.K, hX.mg, hX.base]; exact F) (hX.room.mono (Nat.le_of_ble_eq_true hk)) (by rw [hX.K]; exact hb) .nil pass0 (ua hX _) (hst X.env) (hpl X.env) hpl'
  · refine ho I H adr σ _ s fun v I1 H1 adr1 s1 g1 v1 => ?_
    have v1' := v1
    obtain ⟨p, dx, gs, rfl, h2, h3⟩ := v1
    refine ⟨p, dx, gs, rfl, s1.ex _ _ h2, fpNone h3 hl, ha I1 H1 adr1 σ _ s1 fun vs I2 H2 adr2 s2 g2 v2 => ?_⟩
    obtain ⟨adr0, sto0, vs0, back⟩ := call_mix s2 mx
    have v3 : Vs I2 adr2 (.obj Ca fs :: os) (.ref p :: vs) := .cons (v1'.mono g2) v2
    rw [hos] at v3
    show spR R (.ref p :: (vs ++ [])) H2 Q E0
    rw [List.append_nil]
    refine ⟨I2, adr0, os0, M0, o0, M0', hR, s2.ex, sto0, vs0 _ _ v3, fun z I3 H3 adr0' ex3 sto3 g3 v4 => ?_⟩
    obtain ⟨adr3, s3, g4, dr⟩ := back I3 H3 adr0' ex3 sto3 g3
    exact q z I3 H3 adr3 s3 ((g1.trans g2).trans g4) (dr _ _ v4)
/-- a walk over a written tuple of any things -/
theorem EI.disp {kk : Nat} (h : EA C es E M os M1) (hz : os.length < 100000) : EI C tg (.Tuple es kk pos) E M os.length (fun i => os.getD i .no) M1 tt := fun I H adr σ R s q =>
  ⟨iTup C.g.K (tTup (UA C es)), fun X hX => by
    have := pi_tup (tg := tg) (pe_tup (x1 := kk) (pos := pos) (ua hX es))
    rw [hX.K] at this
    exact this, h I H adr σ _ s fun vs I1 H1 adr1 s1 g1 v1 => by
      refine ⟨by rw [← v1.length]; exact Nat.le_trans (Nat.le_of_lt hz) (by decide), fun p hp => ?_⟩
      obtain ⟨s2, g2⟩ := s1.ext (o := .tup vs) hp NT.tup
      refine ⟨p, rfl, ⟨vs, sqt_uniq upd_same⟩, q _ _ _ adr1 s2 (g1.trans g2) fun I3 H3 adr3 σ3 E3 M3 s3 g3 _ => ?_⟩
      have h3 : H3 p = some (.tup vs) := s3.ex _ _ (g3.ex _ _ upd_same)
      have v3 := (v1.mono g2).mono g3
      refine ⟨⟨vs, sqt_uniq h3, by rw [v1.length]; exact Nat.le_refl _⟩, fun i hi => ?_⟩
      have hget : os[i]? = some (os.getD i .no) := by
        rw [List.getD_eq_getElem?_getD, List.getElem?_eq_getElem hi]
        rfl
      obtain ⟨x, hx, hrx⟩ := v3.get hget
      refine ⟨⟨vs, x, sqt_uniq h3, hx⟩, fun y H4 hy => ?_⟩
      obtain ⟨rfl, hy⟩ := hy
      have e : y = x := Option.some.inj ((hy vs (sqt_uniq h3)).symm.trans hx)
      subst e
      exact ⟨I3, s3, Grow.refl, hrx⟩⟩
end
end Ab
/-! Ab: making objects; defs with a known code object, methods. -/
namespace Ab
open PySem PySem.Spec PyProof.Rows L2 NdefX LamX
variable [TabCtx]
/-! ### a def's body from its text -/
def mkCd (g : Pg) (N : List Str) (st : Stmt) (k : Nat) (cd : Option (Value × Str)) : Cc := { mkC g N st k with cd := cd }
/-- a body that hands back o; J: cells that are dropped -/
def Ends2 (C : Cc) (body : List Stmt) (E : List O) (M : Mem) (o : O) (M' : Mem) : Prop := M.length ≤ M'.length ∧ LowO M'.length o ∧ LowM M'.length M' ∧ ((∃ J, SB C body E M (.rt o (M' ++ J))) ∨ (o = .dat .non ∧ ∃ E' J, SB C body E M (.nx E' (M' ++ J))))
theorem start_slots {N ps : List Str} {os : List O} {vs : List V} {I H : Hp} {adr : List Addr} (v : Vs I adr os vs) : (pad N os).length = (L2.start N vs).length ∧ ∀ (i : Nat) (p : O) (ov : Option V), (pad N os)[i]? = some p → (L2.start N vs)[i]? = some ov → Vso I adr p ov := by
  refine ⟨?_, fun i p ov h1 h2 => ?_⟩
  · unfold pad L2.start
    rw [List.length_append, List.length_append, List.length_map, List.length_replicate, List.length_replicate, v.length]
  · unfold pad at h1
    unfold L2.start at h2
    by_cases hi : i < os.length
    · rw [List.getElem?_append_left hi] at h1
      obtain ⟨w, e1, e2⟩ := v.get h1
      rw [List.getElem?_append_left (by rw [List.length_map, ← v.length]; exact hi), List.getElem?_map, e1] at h2
      cases h2
      exact e2
    · rw [List.getElem?_append_right (Nat.le_of_not_lt hi)] at h1
      have hp : p = .no := List.eq_of_mem_replicate (List.mem_of_getElem? h1)
      subst hp
      cases ov with
      | none => rfl
      | some w => exact True.intro
theorem drop_tail {I H I' H' : Hp} {adr adr' : List Addr} {σ' : L2.St} {E' : List O} {M M' J : Mem} (sto : Sto I H adr M) (s' : Stt I' H' adr' σ' E' (M' ++ J)) (g' : Grow I H adr I' H' adr') (hlen : M.length ≤ M'.length) (lm : LowM M'.length M') :
    ∃ ad2, Ex I' H' ∧ Sto I' H' ad2 M' ∧ Grow I H adr I' H' ad2 ∧ ∀ o v, LowO M'.length o → Vo I' adr' o v → Vo I' ad2 o v := by
  obtain ⟨nw, rfl, fr⟩ := g'.new
  have l1 := s'.sto.len
  have l2 := sto.len
  rw [List.length_append, List.length_append] at l1
  have ht : (adr ++ nw).take M'.length = adr ++ nw.take (M'.length - adr.length) := by
    rw [List.take_append, List.take_of_length_le (by omega)]
  have sub : ∀ (k : Nat) (a : Addr), ((adr ++ nw).take M'.length)[k]? = some a → (adr ++ nw)[k]? = some a := fun k a h => by
    rw [List.getElem?_take] at h
    split at h
    · exact h
    · cases h
  refine ⟨(adr ++ nw).take M'.length, s'.ex, ⟨?_, s'.sto.nd.sublist (List.take_sublist _ _), fun k a ps h1 h2 => ?_, fun k a h1 => s'.sto.dom k a (sub k a h1), s'.sto.amb⟩, ⟨g'.ex, ⟨_, ht, fun p hp => fr p (List.take_subset _ _ hp)⟩, g'.keep, g'.dom, g'.out, g'.code⟩, fun o v lo v' => vo_take lo v'⟩
  · rw [List.length_take, List.length_append]
    omega
  · have hk : k < M'.length := (List.getElem?_eq_some_iff.mp h2).1
    obtain ⟨c1, xs, c2, c3⟩ := s'.sto.cell k a ps (sub k a h1) (by rw [List.getElem?_append_left hk]; exact h2)
    exact ⟨c1, xs, c2, vs_take (lm k ps h2) c3⟩
/-- THE RULE: a def's text at f -/
theorem fnok {g : Pg} {x qual : Str} {st : Stmt} {N ps : List Str} {k : Nat} {R : Rel} {f : Addr} {oc : Value} {od an : Option Addr} {dV kV doc pm cdv ct : Value} {osl : Array (Option Value)} {cd : Option (Value × Str)}
    (lk : g.K.lookup f = some ⟨oc, od, .func (PySem.W.fnOf x qual (defArgs st) (defBody st) (defScope st) dV kV doc pm an cdv ct), osl⟩) (hcd : PySem.W.codeIn g.K cdv qual = true) (S : FnScope N ps (defScope st)) (hc : ∀ c q, cd = some (c, q) → cdv = c ∧ qual ++ ".<locals>." = q)
    (hl : ∀ os M o M', R os M o M' → os.length = ps.length) (body : ∀ os M o M', R os M o M' → Ends2 (mkCd g N st k cd) (defBody st) (pad N os) M o M') :
    FnOk g.P g.w g.K g.mg g.base CX0 (k + 1) f (PySem.W.fnOf x qual (defArgs st) (defBody st) (defScope st) dV kV doc pm an cdv ct) ps (spR R) := by
  refine fn_of lk hcd S (fun vs H Q E h => ?_) fun A outer s H vs Q E hr h => ?_
  · obtain ⟨I, adr, os, M, o, M', r, _, _, v, _⟩ := h
    rw [← v.length]
    exact hl _ _ _ _ r
  · obtain ⟨I, adr, os, M, o, M', r, ex, sto, v, q⟩ := h
    obtain ⟨hlen, lo, lm, hB⟩ := body os M o M' r
    have key : ∃ t, PSs (cxOf CX0 g.P g.w g.K g.mg g.base N qual (defScope st) f cdv A outer s H E).nox (defBody st) t ∧ t { nx := fun _ H' => Q .non H', rt := Q } (L2.start N vs) H := by
      refine ⟨UB (mkCd g N st k cd) (defBody st), ub ⟨rfl, rfl, rfl, rfl, rfl, rfl, rfl, rfl, hr, PassesOwn.never, takes0, fun _ _ => rfl, fun c q z => ?_, ⟨_, _, rfl, S.gen, S.co, rfl, rfl⟩⟩ _, ?_⟩
      · obtain ⟨e1, e2⟩ := hc c q z
        exact ⟨e1, e2⟩
      have sl := start_slots (N := N) (ps := ps) (I := I) (H := H) v
      rcases hB with ⟨J, hB⟩ | ⟨rfl, E', J, hB⟩
      · refine hB I H adr (L2.start N vs) _ ⟨ex, sto, sl.1, sl.2⟩ fun w I' H' adr' s' g' v' => ?_
        obtain ⟨ad2, e2, t2, g2, vo⟩ := drop_tail sto s' g' hlen lm
        exact q w I' H' ad2 e2 t2 g2 (vo _ _ lo v')
      · refine hB I H adr (L2.start N vs) _ ⟨ex, sto, sl.1, sl.2⟩ fun I' H' adr' σ' s' g' => ?_
        obtain ⟨ad2, e2, t2, g2, vo⟩ := drop_tail sto s' g' hlen lm
        exact q .non I' H' ad2 e2 t2 g2 .non
    obtain ⟨t, h1, h2⟩ := key
    exact ⟨t, h1.nox, h2⟩
/-- a def of the module whose code object is at c, the table of its inner code objects at P -/
structure TxtC (g : Pg) (x : Str) (st : Stmt) (c P : Addr) : Prop where
  ex : ∃ (f : Addr) (oc : Value) (od an : Option Addr) (kV doc pm ct : Value) (osl : Array (Option Value)), g.K.lookup f = some ⟨oc, od, .func (PySem.W.fnOf x x (defArgs st) (defBody st) (defScope st) .none kV doc pm an (.ref c) ct), osl⟩ ∧ PySem.W.codeIn g.K (.ref c) x = true ∧ g.mg x = some (.ref f) ∧ PySem.W.keepIn g.K (.ref f) = true
  tb : TabB g.base g.mg c P
theorem FN.mkC {g : Pg} {x : Str} {st : Stmt} {c P : Addr} {N ps : List Str} {k : Nat} {R : Rel} (T : TxtC g x st c P) (S : FnScope N ps (defScope st))
    (hb : ∀ (kV doc pm : Value) (an : Option Addr) (cdv ct : Value) (us : List Value), us.length = ps.length → bindArgs (PySem.W.fnOf x x (defArgs st) (defBody st) (defScope st) .none kV doc pm an cdv ct) ⟨us, []⟩ = pure (ps.zip us))
    (hl : ∀ os M o M', R os M o M' → os.length = ps.length) (body : ∀ os M o M', R os M o M' → Ends2 (mkCd g N st k (some (.ref c, x ++ ".<locals>."))) (defBody st) (pad N os) M o M') : FN g x (k + 1) R := by
  obtain ⟨f, oc, od, an, kV, doc, pm, ct, osl, lk, hcd, hm, hk⟩ := T.ex
  exact ⟨f, _, ps, fnok lk hcd S (fun c q z => by cases z; exact ⟨rfl, rfl⟩) hl body, hm, hk, .all (hb kV doc pm an (.ref c) ct)⟩
/-- a method of the class -/
structure TxtM (g : Pg) (Ca : Addr) (cls m : Str) (st : Stmt) : Prop where
  ex : ∃ (f : Addr) (fd : FuncData), Fun g.K m cls st f fd ∧ Meth g.K Ca m f
theorem MT.mk {g : Pg} {Ca : Addr} {cls m : Str} {st : Stmt} {N ps : List Str} {k : Nat} {R : Rel} (T : TxtM g Ca cls m st) (S : FnScope N ps (defScope st))
    (hb : ∀ (kV doc pm : Value) (an : Option Addr) (cdv ct : Value) (us : List Value), us.length = ps.length → bindArgs (PySem.W.fnOf m cls (defArgs st) (defBody st) (defScope st) .none kV doc pm an cdv ct) ⟨us, []⟩ = pure (ps.zip us))
    (hl : ∀ os M o M', R os M o M' → os.length = ps.length) (body : ∀ os M o M', R os M o M' → Ends2 (mkCd g N st k none) (defBody st) (pad N os) M o M') : MT g Ca m (k + 1) R := by
  obtain ⟨f, fd, F, hm⟩ := T.ex
  have F0 := F
  obtain ⟨oc, od, kV, doc, pm, an, cdv, ct, osl, rfl, lk, hcd⟩ := F.ex
  exact ⟨f, _, ps, hm, fnok lk hcd S (fun c q z => by cases z) hl body, F0.binds hb⟩
theorem FN.mk2x {g : Pg} {x : Str} {st : Stmt} {N ps : List Str} {k : Nat} {R : Rel} (T : TxtF g x st) (S : FnScope N ps (defScope st))
    (hb : ∀ (kV doc pm : Value) (an : Option Addr) (cdv ct : Value) (us : List Value), us.length = ps.length → bindArgs (PySem.W.fnOf x x (defArgs st) (defBody st) (defScope st) .none kV doc pm an cdv ct) ⟨us, []⟩ = pure (ps.zip us))
    (hl : ∀ os M o M', R os M o M' → os.length = ps.length) (body : ∀ os M o M', R os M o M' → Ends2 (mkCd g N st k none) (defBody st) (pad N os) M o M') : FN g x (k + 1) R := by
  obtain ⟨f, fd, F, hm⟩ := T.fn
  have F0 := F
  obtain ⟨oc, od, kV, doc, pm, an, cdv, ct, osl, rfl, lk, hcd⟩ := F.ex
  exact ⟨f, _, ps, fnok lk hcd S (fun c q z => by cases z) hl body, hm, F0.kp, F0.binds hb⟩
/-! ### __init__ -/
abbrev RelI := List O → Mem → List (Str × Nat) → Mem → Prop
def spI (Ca : Addr) (R : RelI) : Sp := fun vs H Q _ => ∃ (Hb I : Hp) (adr : List Addr) (x dx : Addr) (ws : List V) (os : List O) (M : Mem) (fs : List (Str × Nat)) (M' : Mem), vs = .ref x :: ws ∧ Hb x = none ∧ Hb dx = none ∧ dx ≠ x ∧ H = upd (upd Hb dx (.own x)) x (.ins Ca dx []) ∧ R os M fs M' ∧ Ex I Hb ∧ Sto I Hb adr M ∧ Vs I adr os ws ∧
  ∀ I' H' adr', Ex I' H' → Sto I' H' adr' M' → Grow I Hb adr I' H' adr' → Vo I' adr' (.obj Ca fs) (.ref x) → Q .non H'
/-- the class named x keeps R -/
def MK (g : Pg) (x : Str) (Ca : Addr) (k : Nat) (R : RelI) : Prop := ∃ (f : Addr) (fd : FuncData) (ps : List Str), Mk g.K Ca f ∧ FnOk g.P g.w g.K g.mg g.base CX0 k f fd ps (spI Ca R) ∧ g.mg x = some (.ref Ca) ∧ Binds g.K fd ps []
section
variable {C : Cc} {E E1 E2 E' cs : List O} {M M1 M2 M3 M' : Mem} {o o1 o2 o3 : O} {os : List O} {e a b c tg iter body : Expr} {es : List Expr} {pos pos' p kp lpos apos : Pos} {d d1 d2 : D} {ds : List D} {i j : Int} {r : Out}
theorem EV.make {Ca : Addr} {x : Str} {kf : Nat} {R : RelI} {os0 : List O} {fs : List (Str × Nat)} {M0 M0' : Mem} {ι : List Nat} (F : MK C.g x Ca kf R) (ha : EA C (e :: es) E M os M1) (hR : R os0 M0 fs M0') (ho : os = os0.map (·.ren (rho ι M1.length))) (mx : Mix ι M1 M0 M0' M2)
    (hk : Nat.ble (kf + 1) C.k = true := by rfl) (hg : C.sc.names.lookup x = some .globalImplicit := by rfl) (hdb : (x == ("__debug__" : Str)) = false := by decide) (he : ∀ env, starEach (e :: es) env = (false, eval e env) :: starEach es env := by intro _; rfl) (hpl : ∀ env, (backTo pos (starEach es env)).any (·.1) = false := by intro _; rfl) :
    EV C (.Call (.Name x p) (e :: es) [] pos) E M (.obj Ca (fs.map fun f => (f.1, rho ι M1.length f.2))) M2 := by
  obtain ⟨f, fd, ps, hM, F, hm, hb⟩ := F
  refine EV.mk (t := tMake Ca (spI Ca R) [] E0 (UA C (e :: es))) (fun X hX => ?_) fun I H adr σ Q s q => ?_
  · exact pe_make (k := kf) (f := f) (fd := fd) (ps := ps) (by rw [hX.K]; exact hM) (by rw [hX.P, hX.w, hX.K, hX.mg, hX.base]; exact F) (hX.room.mono (Nat.le_of_ble_eq_true hk)) (by show X.env.scope.names.lookup x = _; rw [hX.sc]; exact hg) (by rw [hX.mg]; exact hm) (by rw [hX.K]; exact hb) .nil pass0 (ua hX _) hdb (he X.env) (hpl X.env)
  · refine ha I H adr σ _ s fun vs I1 H1 adr1 s1 g1 v1 => ?_
    intro x dx hx hdx hne
    subst ho
    obtain ⟨adr0, sto0, vs0, back⟩ := call_mix s1 mx
    show spI Ca R (.ref x :: (vs ++ [])) _ _ E0
    rw [List.append_nil]
    refine ⟨H1, I1, adr0, x, dx, vs, os0, M0, fs, M0', rfl, hx, hdx, hne, rfl, hR, s1.ex, sto0, vs0 _ _ v1, fun I3 H3 adr0' ex3 sto3 g3 v3 => ⟨rfl, ?_⟩⟩
    obtain ⟨adr3, s3, g4, dr⟩ := back I3 H3 adr0' ex3 sto3 g3
    exact q _ I3 H3 adr3 s3 (g1.trans g4) (dr _ _ v3)
/-- what the layer doesn't know may be written -/
theorem Stt.oth {I H : Hp} {adr : List Addr} {σ : L2.St} {x Ca dx Cb dy : Addr} {gs hs : List (Str × V)} (s : Stt I H adr σ E M) (hx : x ∉ adr) (hi : I x = none) (h0 : H x = some (.ins Ca dx gs)) : Stt I (upd H x (.ins Cb dy hs)) adr σ E M := by
  have nx : ∀ (k : Nat) (a : Addr), adr[k]? = some a → a ≠ x := fun k a h z => hx (z ▸ List.mem_of_getElem? h)
  refine ⟨s.ex.mut hi, ⟨s.sto.len, s.sto.nd, fun k a os h1 h2 => ?_, fun k a h => ?_, ⟨fun q hq => ?_, s.sto.amb.nt⟩⟩, s.len, s.slot⟩
  · obtain ⟨c1, xs, c2, c3⟩ := s.sto.cell k a os h1 h2
    exact ⟨c1, xs, by rw [upd_ne (nx k a h1)]; exact c2, c3⟩
  · obtain ⟨u, hu, n⟩ := s.sto.dom k a h
    exact ⟨u, by rw [upd_ne (nx k a h)]; exact hu, n⟩
  · obtain ⟨ps, h1, h2, h3⟩ := s.sto.amb.tabs q hq
    have ne : ∀ b u, H b = some u → (∀ A d l, u ≠ .ins A d l) → b ≠ x := fun b u h n z => by
      rw [z, h0] at h
      exact n _ _ _ (Option.some.inj h).symm
    refine ⟨ps, by rw [upd_ne (ne _ _ h1 (fun _ _ _ z => by cases z))]; exact h1, h2, fun pos cv hc => ?_⟩
    obtain ⟨c, e1, e2⟩ := h3 pos cv hc
    exact ⟨c, e1, by rw [upd_ne (ne _ _ e2 (fun _ _ _ z => by unfold LamX.CodeO at z; cases z))]; exact e2⟩
theorem Grow.oth {I H I1 H1 : Hp} {adr adr1 : List Addr} {x : Addr} {u : HO} (g : Grow I H adr I1 H1 adr1) (hx : H x = none) : Grow I H adr I1 (upd H1 x u) adr1 :=
  ⟨g.ex, g.new, fun p o h n q => by rw [upd_ne (ne_of_none h hx)]; exact g.keep p o h n q, fun p o h n => by
    obtain ⟨o', h', n'⟩ := g.dom p o h n
    exact ⟨o', by rw [upd_ne (ne_of_none h hx)]; exact h', n'⟩, g.out, fun c q h => by rw [upd_ne (ne_of_none h hx)]; exact g.code c q h⟩
/-- the fields are written one by one -/
def DoI (C : Cc) (sts : List Stmt) (Ca : Addr) (E : List O) (M : Mem) (fs : List (Str × Nat)) (M' : Mem) (fs' : List (Str × Nat)) : Prop :=
  ∀ (Hb I0 : Hp) (adr0 : List Addr) (I H : Hp) (adr : List Addr) (σ : L2.St) (D : Ends) (x dx : Addr) (gs : List (Str × V)), σ[0]? = some (some (.ref x)) → Hb x = none → I0 x = none → Stt I H adr σ E M → Grow I0 Hb adr0 I H adr → x ∉ adr → I x = none → H x = some (.ins Ca dx gs) → FPair adr fs gs →
    (∀ I' H' adr' σ' gs', Stt I' H' adr' σ' E M' → Grow I0 Hb adr0 I' H' adr' → x ∉ adr' → I' x = none → H' x = some (.ins Ca dx gs') → FPair adr' fs' gs' → D.nx σ' H') → UB C sts D σ H
theorem DoI.nil {Ca : Addr} {fs : List (Str × Nat)} : DoI C [] Ca E M fs M fs := fun Hb I0 adr0 I H adr σ D x dx gs h0 hb hi0 s g nx ix hx fp q => ⟨_, fun _ _ => pss_nil, q I H adr σ gs s g nx ix hx fp⟩
theorem DoI.cons {Ca : Addr} {fs fs' : List (Str × Nat)} {f sf : Str} {k : Nat} {sts : List Stmt} {q1 q2 q3 : Pos} (he : EV C e E M (.adr k) M1) (hr : DoI C sts Ca E M1 (fs ++ [(f, k)]) M' fs') (cl : Cls C.g.K Ca) (na : NoAttr C.g.K Ca f) (hz : fs.length < 900) (hf : fs.lookup f = none := by rfl)
    (hN : C.N[0]? = some sf := by rfl) (hv : Vis C.sc sf := by first | exact Or.inl rfl | exact Or.inr (Or.inl rfl)) (hd : (sf == ("__debug__" : Str)) = false := by decide) (hcd : (sf == ("__classdict__" : Str)) = false := by decide)
    (hs : ∀ env, swapsWith e (some (.Attribute (.Name sf q1) f q2)) q3.line env = pure false := by intro _; rfl) : DoI C (.Assign [.Attribute (.Name sf q1) f q2] e q3 :: sts) Ca E M fs M' fs' := fun Hb I0 adr0 I H adr σ D x dx gs h0 hb hi0 s g nx ix hx fp q => by
  refine ⟨tSeq (sFld C.g.K (tVar 0) (UE C e) f) (UB C sts), fun X hX => pss_cons ?_ (ub hX sts), ?_⟩
  · have := ps_fld (pos := q3) (pos' := q2) (f := f) (pe_var (pos := q1) (i := 0) (x := sf) (by rw [hX.N]; exact hN) (by rw [hX.sc]; exact hv) hd hcd) (ue hX e) (hs X.env)
    rw [hX.K] at this
    exact this
  · refine he I H adr σ _ s fun v I1 H1 adr1 s1 g1 v1 => ?_
    obtain ⟨ak, ek, rfl⟩ := v1
    have nx1 : x ∉ adr1 := fun z => by
      obtain ⟨nw, rfl, fr⟩ := g1.new
      rcases List.mem_append.mp z with z | z
      · exact nx z
      · exact fr x z _ hx (fun ps z => by cases z)
    have ix1 : I1 x = none := g1.out x _ hx (fun ps z => by cases z) ix nx
    have hx1 : H1 x = some (.ins Ca dx gs) := g1.keep x _ hx (fun ps z => by cases z) nx
    have fp1 : FPair adr1 fs gs := prMap fp fun f' g' z => ⟨z.1, let ⟨a, e1, e2⟩ := z.2; ⟨a, g1.get e1, e2⟩⟩
    refine ⟨.ref x, h0, x, Ca, dx, gs, rfl, hx1, cl, na, by rw [← fpLen fp]; omega, ?_⟩
    exact hr Hb I0 adr0 I1 (upd H1 x (.ins Ca dx (putF f (.ref ak) gs))) adr1 σ D x dx _ h0 hb hi0 (s1.oth nx1 ix1 hx1) ((g.trans g1).oth hb) nx1 ix1 upd_same (fpPut ek fp1 hf) q
/-- a class by its __init__ -/
theorem MK.mk {g : Pg} {Ca : Addr} {cls qn : Str} {st : Stmt} {N ps : List Str} {k : Nat} {R : RelI} {f : Addr} {fd : FuncData} (F : Fun g.K "__init__" qn st f fd) (hM : Mk g.K Ca f) (hm : g.mg cls = some (.ref Ca)) (S : FnScope N ps (defScope st))
    (hb : ∀ (kV doc pm : Value) (an : Option Addr) (cdv ct : Value) (us : List Value), us.length = ps.length → bindArgs (PySem.W.fnOf "__init__" qn (defArgs st) (defBody st) (defScope st) .none kV doc pm an cdv ct) ⟨us, []⟩ = pure (ps.zip us))
    (hN : 0 < N.length) (hl : ∀ os M fs M', R os M fs M' → os.length + 1 = ps.length) (body : ∀ os M fs M', R os M fs M' → DoI (mkCd g N st k none) (defBody st) Ca (pad N (.no :: os)) M [] M' fs) : MK g cls Ca (k + 1) R := by
  have F0 := F
  obtain ⟨oc, od, kV, doc, pm, an, cdv, ct, osl, rfl, lk, hcd⟩ := F.ex
  refine ⟨f, _, ps, hM, fn_of lk hcd S (fun vs H Q E h => ?_) fun A outer s H vs Q E hr h => ?_, hm, F0.binds hb⟩
  · obtain ⟨Hb, I, adr, x, dx, ws, os, M, fs, M', rfl, _, _, _, _, r, _, _, v, _⟩ := h
    rw [List.length_cons, ← v.length]
    exact hl _ _ _ _ r
  · obtain ⟨Hb, I, adr, x, dx, ws, os, M, fs, M', rfl, hbx, hbd, hne, rfl, r, ex, sto, v, q⟩ := h
    have key : ∃ t, PSs (cxOf CX0 g.P g.w g.K g.mg g.base N qn (defScope st) f cdv A outer s (upd (upd Hb dx (.own x)) x (.ins Ca dx [])) E).nox (defBody st) t ∧ t { nx := fun _ H' => Q .non H', rt := Q } (L2.start N (.ref x :: ws)) (upd (upd Hb dx (.own x)) x (.ins Ca dx [])) := by
      refine ⟨UB (mkCd g N st k none) (defBody st), ub ⟨rfl, rfl, rfl, rfl, rfl, rfl, rfl, rfl, hr, PassesOwn.never, takes0, fun _ _ => rfl, fun c q z => (by cases z), ⟨_, _, rfl, S.gen, S.co, rfl, rfl⟩⟩ _, ?_⟩
      have ix : I x = none := ex.non hbx
      have idx : I dx = none := ex.non hbd
      have H1x : (upd Hb dx (.own x)) x = none := by rw [upd_ne hne.symm]; exact hbx
      have v' : Vs I adr (.no :: os) (.ref x :: ws) := .cons True.intro v
      have sl := start_slots (N := N) (ps := ps) (I := I) (H := Hb) v'
      have nxa : x ∉ adr := fun z => by
        obtain ⟨kk, hk⟩ := List.getElem?_of_mem z
        obtain ⟨u, hu, _⟩ := sto.dom kk x hk
        rw [hbx] at hu
        cases hu
      have eq2 : ∀ b u, Hb b = some u → (upd (upd Hb dx (.own x)) x (.ins Ca dx [])) b = some u := fun b u e => by
        rw [upd_ne (ne_of_none e hbx), upd_ne (ne_of_none e hbd)]
        exact e
      have sto2 : Sto I (upd (upd Hb dx (.own x)) x (.ins Ca dx [])) adr M := ⟨sto.len, sto.nd, fun kk a os h1 h2 => by
          obtain ⟨c1, xs, c2, c3⟩ := sto.cell kk a os h1 h2
          exact ⟨c1, xs, eq2 _ _ c2, c3⟩, fun kk a h => by
          obtain ⟨u, hu, n⟩ := sto.dom kk a h
          exact ⟨u, eq2 _ _ hu, n⟩, ⟨(sto.amb.tabs.ext fun b u e => eq2 b u e), sto.amb.nt⟩⟩
      have ex2 : Ex I (upd (upd Hb dx (.own x)) x (.ins Ca dx [])) := fun b u e => eq2 b u (ex b u e)
      have g0 : Grow I Hb adr I (upd (upd Hb dx (.own x)) x (.ins Ca dx [])) adr := ⟨Ex.refl _, ⟨[], by simp, by simp⟩, fun p u h _ _ => eq2 p u h, fun p u h n => ⟨u, eq2 p u h, n⟩, fun _ _ _ _ h _ => h, fun c q h => eq2 _ _ h⟩
      refine body os M fs M' r Hb I adr I _ adr (L2.start N (.ref x :: ws)) _ x dx [] rfl hbx ix ⟨ex2, sto2, sl.1, sl.2⟩ g0 nxa ix upd_same .nil fun I' H' adr' σ' gs' s' g' nx' ix' hx' fp' => ?_
      have neq : ∀ (kk : Nat) (a : Addr), adr'[kk]? = some a → a ≠ x := fun kk a h z => nx' (z ▸ List.mem_of_getElem? h)
      have e3 : Ex (upd I' x (.ins Ca dx gs')) H' := fun b u h => by
        by_cases z : b = x
        · subst z
          rw [upd_same] at h
          cases h
          exact hx'
        · rw [upd_ne z] at h
          exact s'.ex b u h
      have i3 : Ex I' (upd I' x (.ins Ca dx gs')) := Ex.new ix'
      refine q (upd I' x (.ins Ca dx gs')) H' adr' e3 ⟨s'.sto.len, s'.sto.nd, fun kk a os h1 h2 => ?_, s'.sto.dom, ⟨s'.sto.amb.tabs, fun b u h => ?_⟩⟩ ⟨g'.ex.trans i3, g'.new, g'.keep, g'.dom, fun p u h n h1 h2 => ?_, g'.code⟩ ⟨x, dx, gs', rfl, upd_same, fp'⟩
      · obtain ⟨c1, xs, c2, c3⟩ := s'.sto.cell kk a os h1 h2
        exact ⟨by rw [upd_ne (neq kk a h1)]; exact c1, xs, c2, c3.ext i3⟩
      · by_cases z : b = x
        · subst z
          rw [upd_same] at h
          cases h
          exact fun ps z => by cases z
        · rw [upd_ne z] at h
          exact s'.sto.amb.nt b u h
      · rw [upd_ne (ne_of_none h hbx)]
        exact g'.out p u h n h1 h2
    obtain ⟨t, h1, h2⟩ := key
    exact ⟨t, h1.nox, h2⟩
end
end Ab
/-! Ab: any of a tuple of ints; a cell within a cell is frozen. -/
namespace Ab
open PySem PySem.Spec PyProof.Rows L2
variable [TabCtx]
section
variable {C : Cc} {E E1 E2 E' : List O} {M M1 M2 M3 M' : Mem} {o : O} {os ps : List O} {e a b c : Expr} {pos pos' p : Pos} {d d1 d2 : D} {ds : List D} {i j : Int} {r : Out} {x : Str}
theorem any_range' {ns : List Int} : (List.range ns.length).any (fun i => ns.getD i 0 != 0) = ns.any (· != 0) := by
  rw [Bool.eq_iff_iff]
  simp only [List.any_eq_true, List.mem_range]
  constructor
  · rintro ⟨i, hi, h⟩
    refine ⟨ns[i], List.getElem_mem hi, ?_⟩
    rw [List.getD_eq_getElem?_getD, List.getElem?_eq_getElem hi] at h
    exact h
  · rintro ⟨y, hy, h⟩
    obtain ⟨i, hi, e⟩ := List.getElem_of_mem hy
    refine ⟨i, hi, ?_⟩
    rw [List.getD_eq_getElem?_getD, List.getElem?_eq_getElem hi, e]
    exact h
theorem cr_anyT {X : Cx} (hc : X.calm = true) : CallR X (.builtin "any") (fun vs H Q => ∃ (a : Addr) (ns : List Int), vs = [V.ref a] ∧ SqT X.K H a (ns.map V.int) ∧ Q (.bl (ns.any (· != 0))) H) := by
  intro pins s σ H vs us Q I r h
  obtain ⟨a, ns, rfl, hs, q⟩ := h
  obtain ⟨its, rv, hp, _⟩ := I.tuple hs
  rw [Vals.ref1 r]
  have hi : IntsAre its ns := Vals.ints rv
  have hp' : s.heap.IsTuple a its.toArray := hp
  have hlt : a < s.heap.objs.size := by obtain ⟨_, e, _⟩ := hp'; exact Heap.lt_size e
  refine call_any_walk (wpAny_pyIter_tuple hp' ⟨_, _, _, _, _, _, fun i => ns.getD i 0 != 0, rfl, Walks.tuple (A := X.A.in1) (I.ok.hd hc) _ a (Nat.ne_of_lt hlt) its.toArray, ⟨⟨_, Heap.get?_push_size _ rfl, rfl, rfl⟩, hp'.push _⟩, fun i v s Q E hv hq => ?_, fun h' tk hk => ?_⟩)
  · have hv' : its[i]? = some v := by simpa using hv
    have hl : i < ns.length := by
      rw [← hi.length]
      exact (List.getElem?_eq_some_iff.mp hv').1
    obtain ⟨t, ht⟩ := hi.get i ns[i] (List.getElem?_eq_getElem hl)
    rw [ht] at hv'
    cases hv'
    have e : ns.getD i 0 = ns[i] := by rw [List.getD_eq_getElem?_getD, List.getElem?_eq_getElem hl]; rfl
    try dsimp only at hq
    rw [e] at hq
    exact PyProof.Rows.truthy_int hq
  · refine ⟨.bl _, H, I.kept fun b o eo => hk b o (fun hmem => ?_) (Heap.get?_push_of_some _ eo), ?_, q⟩
    · rcases List.mem_cons.mp hmem with e1 | hmem
      · exact absurd (e1 ▸ Heap.lt_size eo) (Nat.lt_irrefl _)
      · cases hmem
    · show Value.bool _ = Value.bool _
      rw [← any_range', List.size_toArray, hi.length]
theorem KS.anyT {ns : List Int} : KS C (.builtin "any") [.dat (.tup (ns.map .int))] M (.dat (.bl (ns.any (· != 0)))) M := ⟨_, fun X hX => by
  have := cr_anyT (X := X) hX.calm
  rw [hX.K] at this
  exact this, fun I H adr σ E vs Q s hv q => by
  obtain ⟨v, ev, hz⟩ := vsOne hv
  subst ev
  cases (show Rep I (.tup (ns.map .int)) v from hz) with
  | @tup p xs _ hp hr =>
    have e := reps_int hr
    subst e
    exact ⟨p, ns, rfl, .inl (.inl (s.ex _ _ hp)), q _ I H adr s Grow.refl (.bl _)⟩⟩
theorem EV.anyT {ns : List Int} (h : EV C a E M (.dat (.tup (ns.map .int))) M') (hm : Bt C.g "any") (hx : x = "any" := by rfl) (hg : C.sc.names.lookup x = some .globalImplicit := by rfl) (he : ∀ env, starEach [a] env = (false, eval a env) :: starEach [] env := by intro _; rfl) : EV C (.Call (.Name x p) [a] [] pos) E M (.dat (.bl (ns.any (· != 0)))) M' := by
  subst hx; exact EV.bi KS.anyT h hm bv_any (by decide) (by decide) hg he
/-- the cell nn, an element of the cell oc, is frozen -/
theorem SB.fzC {oc nn k : Nat} {sts : List Stmt} (ho : M[oc]? = some (some ps)) (hp : ps[k]? = some (.adr nn)) (hne : oc ≠ nn) (hm : M[nn]? = some (some (ds.map .dat))) (h : SB C sts E ((M.set nn none).set oc (some (ps.set k (.dat (.lst ds))))) r) : SB C sts E M r := fun I H adr σ D s q => by
  have hk : nn < adr.length := by
    rw [s.sto.len]
    exact (List.getElem?_eq_some_iff.mp hm).1
  have hoc : oc < M.length := (List.getElem?_eq_some_iff.mp ho).1
  obtain ⟨I1, s1, g1, r1⟩ := s.frz (List.getElem?_eq_getElem hk) hm
  have hoc1 : oc < adr.length := by rw [s.sto.len]; exact hoc
  obtain ⟨c1, xs, c2, c3⟩ := s1.sto.cell oc adr[oc] ps (List.getElem?_eq_getElem hoc1) (by rw [List.getElem?_set_ne (fun z => hne z.symm)]; exact ho)
  obtain ⟨v, hv, hvo⟩ := c3.get hp
  obtain ⟨a', h1, h2⟩ := hvo
  rw [List.getElem?_eq_getElem hk] at h1
  cases h1
  subst h2
  have e : xs.set k (.ref adr[nn]) = xs := by
    obtain ⟨hl, he⟩ := List.getElem?_eq_some_iff.mp hv
    rw [← he]
    exact List.set_getElem_self hl
  have c4 : Vs I1 adr (ps.set k (.dat (.lst ds))) xs := by
    have := c3.set (o := .dat (.lst ds)) (v := .ref adr[nn]) r1 k
    rw [e] at this
    exact this
  have s2 : Stt I1 H adr σ E ((M.set nn none).set oc (some (ps.set k (.dat (.lst ds))))) := by
    refine ⟨s1.ex, ⟨by rw [List.length_set]; exact s1.sto.len, s1.sto.nd, fun j b qs h1 h2 => ?_, s1.sto.dom, s1.sto.amb⟩, s1.len, s1.slot⟩
    by_cases hj : j = oc
    · subst hj
      rw [List.getElem?_set_self (by rw [List.length_set]; exact hoc)] at h2
      cases h2
      rw [List.getElem?_eq_getElem hoc1] at h1
      cases h1
      exact ⟨c1, xs, c2, c4⟩
    · rw [List.getElem?_set_ne (fun z => hj z.symm)] at h2
      exact s1.sto.cell j b qs h1 h2
  exact h I1 H adr σ D s2 (q.mono g1)
end
end Ab
/-! Ab: == and != of lists of lists, != of tuples of tuples. -/
namespace Ab
open PySem PySem.Spec PyProof.Rows L2
variable [TabCtx]
def pW (v : List Int) : PyData := .list (v.map .int)
def pN (m : List (List Int)) : PyData := .list (m.map pW)
theorem pys_W : ∀ m : List (List Int), Pys (m.map lV) (m.map pW)
  | [] => .nil
  | r :: m => .cons (.lst (pys_int r)) (pys_W m)
theorem py_N (m : List (List Int)) : Py (lM m) (pN m) := .lst (pys_W m)
theorem eqv_W : ∀ m n : List (List Int), PyData.eqvAll (m.map pW) (n.map pW) = decide (m = n)
  | [], [] => rfl
  | [], _ :: _ => rfl
  | _ :: _, [] => rfl
  | x :: v, y :: w => by
    show (PyData.eqvAll (x.map .int) (y.map .int) && PyData.eqvAll (v.map pW) (w.map pW)) = _
    rw [eqv_W v w, eqv_ints, Bool.eq_iff_iff]
    simp only [Bool.and_eq_true, decide_eq_true_eq, List.cons.injEq]
theorem lay_W : ∀ m : List (List Int), PyData.canLayAll0 (m.map pW) = true
  | [] => rfl
  | x :: v => by
    show (PyData.canLayAll0 (x.map .int) && PyData.canLayAll0 (v.map pW)) = true
    rw [lay_W v, lay_ints, Bool.and_self]
theorem dep_W : ∀ m : List (List Int), PyData.depthAll (m.map pW) ≤ 2
  | [] => by decide
  | x :: v => by
    have a := dep_W v
    have b := dep_ints x
    show max (PyData.depthAll (x.map .int) + 1) (PyData.depthAll (v.map pW)) ≤ 2
    omega
theorem shaped_N (m : List (List Int)) : SeqAt.shaped (pN m) = true := by
  unfold SeqAt.shaped
  have a : (pN m).canLay0 = true := lay_W m
  have b : (pN m).depth ≤ 64 := by
    have z := dep_W m
    show PyData.depthAll (m.map pW) + 1 ≤ 64
    omega
  rw [a, decide_eq_true b, Bool.and_self]
section
variable {C : Cc} {M : Mem}
theorem CS.eqN {m m' : List (List Int)} : CS C .Eq (.dat (lM m)) (.dat (lM m')) M (.dat (.bl (decide (m = m')))) M := ⟨rEqD C.g.K, fun X hX => hX.K ▸ op_eqD (X := X) (hu64 hX), fun I H adr σ E v w Q s hv hw q =>
  ⟨pN m, pN m', rep_dp s.ex (py_N m) hv, rep_dp s.ex (py_N m') hw, shaped_N m, shaped_N m', by
    rw [show PyData.eqv (pN m) (pN m') = decide (m = m') from eqv_W m m']
    exact q _ I H adr s Grow.refl (.bl _)⟩⟩
theorem CS.neN {m m' : List (List Int)} : CS C .NotEq (.dat (lM m)) (.dat (lM m')) M (.dat (.bl (!decide (m = m')))) M := ⟨rNeD C.g.K, fun X hX => hX.K ▸ op_neD (X := X) (hu64 hX), fun I H adr σ E v w Q s hv hw q =>
  ⟨pN m, pN m', rep_dp s.ex (py_N m) hv, rep_dp s.ex (py_N m') hw, shaped_N m, shaped_N m', by
    rw [show PyData.eqv (pN m) (pN m') = decide (m = m') from eqv_W m m']
    exact q _ I H adr s Grow.refl (.bl _)⟩⟩
theorem CS.neM {m m' : List (List Int)} : CS C .NotEq (.dat (tM m)) (.dat (tM m')) M (.dat (.bl (!decide (m = m')))) M := ⟨rNeD C.g.K, fun X hX => hX.K ▸ op_neD (X := X) (hu64 hX), fun I H adr σ E v w Q s hv hw q =>
  ⟨pM m, pM m', rep_dp s.ex (py_M m) hv, rep_dp s.ex (py_M m') hw, shaped_M m, shaped_M m', by
    rw [show PyData.eqv (pM m) (pM m') = decide (m = m') from eqv_rows m m']
    exact q _ I H adr s Grow.refl (.bl _)⟩⟩
/-- two lists one behind the other, a cell -/
theorem BS.addLN {ds es : List D} (h : ds.length + es.length ≤ 100000) : BS C .Add (.dat (.lst ds)) (.dat (.lst es)) M (.adr M.length) (M ++ [some ((ds ++ es).map .dat)]) := ⟨rCat, fun X hX => op_cat, fun I H adr σ E v w Q s hv hw q => by
  cases (show Rep I (.lst ds) v from hv) with
  | @lst a xs _ ha hr =>
    cases (show Rep I (.lst es) w from hw) with
    | @lst b ys _ hb hs =>
      refine ⟨a, b, xs, ys, rfl, rfl, s.ex _ _ ha, s.ex _ _ hb, by rw [← hr.length, ← hs.length]; exact sz_of h, fun p hp => ?_⟩
      obtain ⟨s2, g2, r2⟩ := s.cel hp (Vs.reps (hr.append hs))
      exact q _ _ _ _ s2 g2 ⟨p, r2, rfl⟩⟩
theorem CS.inIT {i : Int} {ns : List Int} : CS C .In (.dat (.int i)) (.dat (.tup (ns.map .int))) M (.dat (.bl (Ab.inI i ns))) M := ⟨rIn C.g.K false, fun X hX => hX.K ▸ op_in_seq (X := X), fun I H adr σ E v w Q s hv hw q => by
  cases rep_int hv
  cases (show Rep I (.tup (ns.map .int)) w from hw) with
  | @tup p xs _ hp hr =>
    obtain rfl := reps_int hr
    exact ⟨p, _, rfl, .inr (.inl (.inl (s.ex _ _ hp))), rfl, flat_ints ns, by
      show Q (.bl (inV _ _)) H
      rw [inV_ints]
      exact q _ I H adr s Grow.refl (.bl _)⟩⟩
end
end Ab
/-! Ab: an own exception class over a class over ValueError, its maker saying super().__init__(x); self.f = x. -/
namespace Ab
open PySem PySem.Spec PyProof.Rows L2

/-- the maker's text -/
structure SupT (st : Stmt) (arg fld : Str) : Prop where
  body : ∃ p0 p1 p2 p3 p4 p5 p6 p7 p8 p9 : Pos, defBody st = [.Expr (.Call (.Attribute (.Call (.Name "super" p0) [] [] p1) "__init__" p2) [.Name arg p3] [] p4) p5, .Assign [.Attribute (.Name "self" p6) fld p7] (.Name arg p8) p9] ∧
    ∃ pl : Sem Bool, ∀ env : Env, eval (.Call (.Attribute (.Call (.Name "super" p0) [] [] p1) "__init__" p2) [.Name arg p3] [] p4) env = (do
      let ov ← attributeBase (.Call (.Name "super" p0) [] [] p1) "__init__" env (eval (.Call (.Name "super" p0) [] [] p1) env)
      standAt p2.atName
      let (f, first) ← holding [ov] (getMethod ov "__init__" pl)
      callWith p4 f first (backTo p4 (starEach [.Name arg p3] env)) [])
  bind : ∀ (q : Str) (kV doc pm : Value) (an : Option Addr) (cdv ct : Value) (cc : Addr) (u v : Value), bindArgs (PySem.W.ksFn "__init__" q (defArgs st) (defBody st) (defScope st) .none kV doc pm an cdv ct cc) ⟨[u, v], []⟩ = pure [(("self" : Str), u), (arg, v)]
  par : ∃ ar : Arg, ((defArgs st).posonlyargs ++ (defArgs st).args).head? = some ar ∧ ar.arg = "self"
  kind : (defScope st).kind = .function
  co : (defScope st).isCoroutine = false
  gen : (defScope st).isGenerator = false
  nocell : ∀ x ∈ (defScope st).names, x.2 ≠ .cell
  sup : (defScope st).names.lookup ("super" : Str) = some .globalImplicit
  cls : (defScope st).names.lookup ("__class__" : Str) = some .free
  self : (defScope st).names.lookup ("self" : Str) = some .local
  argl : (defScope st).names.lookup arg = some .local
  ne : arg ≠ "self"
  dbg : (arg == ("__debug__" : Str)) = false

/-- what the written part says of the class and its maker -/
structure SupC (P : Program) (K : PySem.W.Frag) (C fI : Addr) (st : Stmt) (fld : Str) : Prop where
  ex : OexC K C
  ini : PySem.W.findIn K (.ref C) "__init__" = some (some (.ref fI))
  tyI : PySem.W.typeIn K (.ref fI) = some (.type "function")
  fo : ∃ (oc : Value) (od : Option Addr) (osl : Array (Option Value)) (q : Str) (kV doc pm ct : Value) (an : Option Addr) (cda cc : Addr),
    K.lookup fI = some ⟨oc, od, .func (PySem.W.ksFn "__init__" q (defArgs st) (defBody st) (defScope st) .none kV doc pm an (.ref cda) ct cc), osl⟩ ∧ PySem.W.codeIn K (.ref cda) q = true ∧
    (∃ (a b : _) (d : _) (vs : Array Value) (file : Str) (tf : Tok), K.lookup cda = some ⟨a, b, .fields vs, d⟩ ∧ vs[2]? = some (.str file tf) ∧ ((P.main.file : Str) == file) = true) ∧
    ∃ (a b d : _), K.lookup cc = some ⟨a, b, .cell (some (.ref C)), d⟩
  top : (P.main.scope.names.lookup ("super" : Str)).isSome = false
  wex : PySem.W.ks_superIn K C C "__init__" = some (some (.builtin "ValueError.__init__"))
  sub : PySem.W.subIn K (.ref C) (.type "ValueError") = some true
  mro : PySem.W.mroIn K C (.ref C) = some true
  opq : PySem.W.nsIn K cStatics "thirdparty.any" = some none
  nof : PySem.W.findIn K (.ref C) fld = some none

section
variable {P : Program} {w : World} {K : PySem.W.Frag} {C fI : Addr} {st : Stmt} {fld arg : Str}
theorem sup_call {A : Around} {E : Value → Shared → Prop} {h : Heap} {g : Array GenState} {d : Drawn} {t : Nat} {os : OsState}
    {nm q : Str} {N : Addr} {bs bm : List Value} {hdct : Bool} {sn : List Str} {sub : List Value} {ab : Bool} {col : Option Bool} {dd : Option Addr} {k0 k1 k2 k3 k5 : Option Value} {u e t0 : Addr} {rest : List Value} {Q : Value → Shared → Prop}
    (hC : h.get? C = some (excClassObj nm q C N bs bm hdct sn sub ab col dd k0 k1 k2 k3 k5 "ValueError.__new__")) (he : h.get? e = some (HandSPX.excO C t0)) (hu : h.get? u = some (PySem.W.kxs_mw "ValueError.__init__" e)) (hrest : rest.length ≤ sizeLine)
    (hq : ∀ h' t1, (∀ b o, b ≠ e → h.get? b = some o → h'.get? b = some o) → h'.get? e = some (HandSPX.excO C t1) → Q .none ⟨h', g, d, t, os⟩) :
    wpAny (model P w) A (call (.ref u) rest) Q E ⟨h, g, d, t, os⟩ := by
  refine wpAny_call (codeAny_of_tree ?_)
  show wpAny _ A.in1 (callAny (.ref u) ⟨rest, []⟩) _ _ _
  simp only [callAny]
  refine wpAny_bind (wpAny_load hu ?_)
  simp only [PySem.W.kxs_mw, show (Value.type "method-wrapper" == Value.type "method" || Value.type "method-wrapper" == Value.type "builtin_function_or_method" || Value.type "method-wrapper" == Value.type "method-wrapper") = true by decide, if_true]
  refine PySem.W.KFB.if_so (by decide) ?_
  refine wpAny_bind (PySem.W.check_bound_init F.excBase_ValueError.toExcCallFacts hC he rfl ?_)
  refine wpAny_bind (wpAny_pure (wpAny_pure ?_))
  refine ⟨Code.quiet_builtin _ (by decide +kernel), codeAny_builtin F.excBase_ValueError.initEntry ?_⟩
  rw [Around.under_plainId F.excBase_ValueError.init.plain _]
  wp_walk
  refine hq _ h.objs.size (fun b o hb ho => ?_) ?_
  · rw [Heap.get?_update_other _ _ (Ne.symm hb)]
    exact Heap.get?_push_of_some _ ho
  · rw [Heap.get?_update_self _ (Heap.get?_push_of_some _ he) rfl]
    rfl

theorem look_cons {α : Type} (f x : Str) (y : α) (fs : List (Str × α)) : ((f, y) :: fs).lookup x = if x = f then some y else fs.lookup x := by
  by_cases h : x = f
  · subst h
    simp [List.lookup]
  · rw [if_neg h]
    have e : (x == f) = false := by simpa using h
    simp [List.lookup, e]
theorem sup_init {A : Around} {R : Result → Shared → Prop} {s : Shared} {mg : Str → Option Value} {e t0 : Addr} {v : Value} (T : SupC P K C fI st fld) (S : SupT st arg fld) (hroom : A.depth < recursionLimit) (KX : K.In s.heap) (nK : ∀ b o, K.lookup b = some o → b ≠ e)
    (lim : s.heap.NoLimit) (G : s.heap.Ns mainGlobals mg) (gs : mg "super" = none) (B : ∃ mb, s.heap.Ns builtinsNs mb ∧ ∀ x : Str, x ≠ "__name__" → mb x = bootBuiltins x) (he : s.heap.get? e = some (HandSPX.excO C t0))
    (hq : ∀ h' tk' dx t1, (∀ b o, b ≠ e → s.heap.get? b = some o → h'.get? b = some o) → s.heap.objs.size ≤ dx → dx ≠ e → h'.get? e = some { cls := .ref C, dict := some dx, data := .fields #[.ref t1, .none, .none, .none, .bool false, .none] } →
      h'.Ns1 dx (fun y => if y = fld then some v else none) → R (.ok (.ret .none)) ⟨h', s.gens, s.drawn, tk', s.os⟩) :
    codeAny (model P w) A (.call (.ref fI) ⟨[.ref e, v], []⟩) R s := by
  obtain ⟨oc, od, osl, q, kV, doc, pm, ct, an, cda, cc, lk, hcd, ⟨ca, cb, cd, vs, file, tf, lkc, hvs, hfile⟩, ka, kb, kd, lkl⟩ := T.fo
  obtain ⟨nm, qn, N, bs, bm, sn, sub, ab, col, dd, k0, k1, k2, k3, k5, hC, hbm⟩ := T.ex.cls
  obtain ⟨p0, p1, p2, p3, p4, p5, p6, p7, p8, p9, hbody, pl, hcall⟩ := S.body
  obtain ⟨ar, har1, har2⟩ := S.par
  have hcl : PySem.W.clsIn K C = some { name := nm, bases := bs, mro := .ref C :: bm, ns := N, qualname := qn, hasDict := true, slotNames := sn, subclasses := sub, abstract := ab, collection := col, hasDel := false } := by unfold PySem.W.clsIn; rw [hC] <;> rfl
  refine ks_codeAny_call_defAt (fd := PySem.W.ksFn "__init__" q (defArgs st) (defBody st) (defScope st) .none kV doc pm an (.ref cda) ct cc) (body := defBody st) (binds := [(("self" : Str), .ref e), (arg, v)]) hroom (KX _ _ lk) rfl lim (PySem.W.codeRec_of KX hcd) rfl
    (BindsTo.of_eq (S.bind q kV doc pm an (.ref cda) ct cc (.ref e) v)) S.nocell (fun x hx => ?_) (fun h₁ hns hk₁ => ?_) S.co S.gen S.kind
  · rcases List.mem_cons.mp hx with rfl | hx
    · exact S.self
    · obtain rfl := List.mem_singleton.mp hx
      exact S.argl
  · have hl : ∀ y, [(("self" : Str), Value.ref e), (arg, v)].reverse.lookup y = if y = arg then some v else if y = ("self" : Str) then some (.ref e) else none := fun y => by
      show List.lookup y [(arg, v), (("self" : Str), Value.ref e)] = _
      rw [look_cons, look_cons]
      rfl
    have he1 := hk₁ _ _ he
    have KX1 := KX.keeps hk₁
    obtain ⟨mb, B1, B2⟩ := B
    show PySem.wpAt (model P w) (A.deeper (PySem.W.ksEnv q (defScope st) s.heap.objs.size fI (.ref cda) cc)) (.func (defBody st) (PySem.W.ksEnv q (defScope st) s.heap.objs.size fI (.ref cda) cc)) (execs (defBody st) (PySem.W.ksEnv q (defScope st) s.heap.objs.size fI (.ref cda) cc)) _ _ _
    rw [hbody]
    refine ks_wpAt_execs_cons (ks_wpAt_Expr_any ?_ (by unfold interactive; show (_ && _) = false; rw [show (PySem.W.ksEnv q (defScope st) s.heap.objs.size fI (.ref cda) cc).scope.kind = .function from S.kind]; rfl) rfl)
    refine ks_wpAt_MethodCall ?_ (hcall _)
    have hD1 : h₁.get? C = _ := KX1 _ _ hC
    refine ks_wpAt_super_base (env := PySem.W.ksEnv q (defScope st) s.heap.objs.size fI (.ref cda) cc) S.sup S.cls (by decide) rfl (KX1 _ _ lk) rfl har1 rfl (KX1 _ _ lkc) rfl hvs hfile T.top ?_
    refine PySem.W.ks_loadName_global S.kind S.sup (Calls.loadGlobal_builtin (env := PySem.W.ksEnv q (defScope st) s.heap.objs.size fI (.ref cda) cc) (G.keeps hk₁) gs (B1.keeps hk₁) ((B2 _ (by decide)).trans PyProof.Rows.Boot.«super») ⟨rfl, ?_⟩)
    refine wpAny_loadName_free S.kind S.cls rfl ⟨_, KX1 _ _ lkl, rfl⟩ ?_
    rw [har2]
    refine wpAny_loadName_local S.kind S.self hns (by rw [hl, if_neg (Ne.symm S.ne), if_pos rfl]) ?_
    refine ks_wpAny_isType_cls hD1 rfl ⟨rfl, ?_⟩
    have I1 : PySem.W.InstAt h₁ e (HandSPX.excO C t0) C none := ⟨he1, rfl, rfl, trivial⟩
    refine ks_wpAny_call_super hD1 rfl he1 rfl (fun c z => by cases z) (PySem.W.looks_mroIn KX1 T.mro) (fun h2 e2 k2 => ?_)
    have KX2 := KX1.keeps k2
    have hI0 : PySem.W.Looks (model P w) h₁ (isInstance (.ref e) (.type "ValueError")) true := I1.type.andThen (PySem.W.looks_subIn KX1 T.sub)
    have hI := hI0.keeps k2
    have wx := T.wex
    unfold PySem.W.ks_superIn at wx
    rw [hcl] at wx
    refine PySem.W.kxs_getMethod PySem.W.kxs_ValueError e2 (PySem.W.looks_opaque KX2 T.opq) (l₀ := .ref C :: bm) (fun A Q E s k z => wpAny_bind ((PySem.W.looks_clsIn KX2 hcl) A _ E s k (wpAny_pure z))) rfl KX2 wx hI (nK _ _ hC).symm (by decide) ?_
    have k3 : ∀ b o, h2.get? b = some o → (h2.push (PySem.W.kxs_mw "ValueError.__init__" e)).get? b = some o := fun b o z => Heap.get?_push_of_some _ z
    have kk : ∀ b o, s.heap.get? b = some o → (h2.push (PySem.W.kxs_mw "ValueError.__init__" e)).get? b = some o := fun b o z => k3 b o (k2 b o (hk₁ b o z))
    have hu : (h2.push (PySem.W.kxs_mw "ValueError.__init__" e)).get? h2.objs.size = some (PySem.W.kxs_mw "ValueError.__init__" e) := Heap.get?_push_at rfl rfl
    have hns3 : (h2.push (PySem.W.kxs_mw "ValueError.__init__" e)).Ns s.heap.objs.size fun y => [(("self" : Str), Value.ref e), (arg, v)].reverse.lookup y := (hns.keeps k2).keeps k3
    have ne : s.heap.objs.size ≠ e := Nat.ne_of_gt (Heap.lt_size he)
    refine PySem.W.kxs_callWith (i := "ValueError.__init__") (x := e) rfl (Calls.evalArgs_plain (spliced_more (env := PySem.W.ksEnv q (defScope st) s.heap.objs.size fI (.ref cda) cc) (ESX.ldL hns3 (by rw [hl, if_pos rfl]) ?_ S.kind S.argl S.dbg) rfl))
    refine spliced_none ⟨hu, ?_⟩
    refine sup_call (KX1.keeps (fun b o z => k3 b o (k2 b o z)) _ _ hC) (k3 _ _ (k2 _ _ he1)) hu (by show 1 ≤ sizeLine; rw [sizeLine_eq]; omega) fun h4 t1 k4 he4 => ?_
    have K4 : ∀ b o, b ≠ e → s.heap.get? b = some o → h4.get? b = some o := fun b o hb z => k4 b o hb (kk b o z)
    have KX4 : K.In h4 := fun b o z => K4 b o (nK b o z) (KX b o z)
    have hns4 : h4.Ns s.heap.objs.size fun y => [(("self" : Str), Value.ref e), (arg, v)].reverse.lookup y := hns3.at fun o z => k4 _ o ne z
    refine ks_wpAt_execs_cons (wpAt_of_wpAny (plainObj_wpAny_Assign_Attribute (ESX.ldL hns4 (by rw [hl, if_pos rfl]) (ESX.ldL hns4 (by rw [hl, if_neg (Ne.symm S.ne), if_pos rfl]) ?_ S.kind S.self) S.kind S.argl S.dbg) rfl))
    refine PySem.W.set_plain KX4 (ox := HandSPX.excO C t1) (od := none) ⟨he4, rfl, rfl, trivial⟩ T.ex.sa ?_
    refine HandSPX.exc_osa KX4 he4 hcl (show HandSPX.refsVE (.ref C :: bm) = true from hbm) rfl T.nof (fun h' tk' dx k dn dne hx hn => ?_)
    refine wpAt_of_wpAny (wpAny_execs_nil ?_)
    exact hq h' tk' dx t1 (fun b o hb z => k b o hb (K4 b o hb z)) (Nat.le_trans (Nat.le_of_lt hns4.lt) dn) dne hx hn
end
end Ab
/-! Ab: raising, catching. -/
namespace Ab
open PySem PySem.Spec PyProof.Rows L2

section
variable {X : Cx} {C fI : Addr} {st : Stmt} {fld arg x : Str} {e : Expr} {ta : TA} {p pos : Pos} {k : Nat}
def tSup (C : Addr) (fld : Str) (ta : TA) : L2.St → Hp → XK → Prop := fun σ H Q => ta σ H fun vs H1 => ∃ y, vs = [y] ∧ ∀ d, H1 d = none → Q (.ref C) (some d) (upd H1 d (.xd [(fld, y)]))
theorem pmk_sup (T : SupC X.prog X.K C fI st fld) (S : SupT st arg fld) (hr : Room (k + 1) X.A) (hg : Gl X x) (hm : X.mg x = some (.ref C)) (gs : X.mg "super" = none) (ha : PA X [e] ta)
    (hdb : (x == ("__debug__" : Str)) = false := by decide) (he : starEach [e] X.env = (false, eval e X.env) :: starEach [] X.env := by rfl) (hpl : (backTo pos (starEach [] X.env)).any (·.1) = false := by rfl) :
    L2N.PMk X (.Call (.Name x p) [e] [] pos) (tSup C fld ta) := by
  intro pins s σ H Q I h
  obtain ⟨nm, q, N, bs, bm, sn, sub, ab, col, dd, k0, k1, k2, k3, k5, hC, hbm⟩ := T.ex.cls
  refine wpAny_Call_Name_kw (ld_glob I hg hm ?_ hdb)
  refine PySem.W.callWith_K (h₀ := X.base) I.ok.mod.kin T.ex.kC (thn (ha.run pos pins s σ H _ I h) fun us s1 ⟨vs, H1, I1, r1, y, hz, q1⟩ => ⟨I1.kIn, ?_⟩) he hpl
  subst hz
  cases r1 with
  | @cons _ u _ us' ru rn =>
    cases rn
    show wpAny _ _ (call (.ref C) [u]) _ _ _
    obtain ⟨hp, g, dr, tk, os⟩ := s1
    have kk : ∀ b o, hp.get? b = some o → ((hp.push (PySem.W.kdv_tup [u])).push (HandSPX.excO C hp.objs.size)).get? b = some o := fun b o e => Heap.get?_push_of_some _ (Heap.get?_push_of_some _ e)
    have hget : ((hp.push (PySem.W.kdv_tup [u])).push (HandSPX.excO C hp.objs.size)).get? (hp.objs.size + 1) = some (HandSPX.excO C hp.objs.size) := by heap_get
    have hus : [u].length ≤ sizeLine := by
      show 1 ≤ sizeLine
      rw [sizeLine_eq]
      omega
    have KX : X.K.In hp := I1.kIn
    have bk : ∀ b o, X.base.get? b = some o → hp.get? b = some o := I1.bk
    obtain ⟨mb, B1, B2⟩ := I1.mod.blt
    have R1 := hr.make C [u] []
    refine wpAny_call (HandSPX.call_own F.excBase_ValueError (fun Y => HandSPX.refsVE_contains Y bm hbm) (KX _ _ hC) (PySem.W.looks_findIn KX T.ini) (fun self => PySem.W.bind_fn KX self T.tyI) hus
      (sup_init T S (by have := R1.dp; omega) (KX.keeps kk) (fun b o z => Nat.ne_of_lt (Nat.lt_succ_of_lt (Heap.lt_size (KX b o z)))) ((I1.mod.nolimit.keeps bk).keeps kk) ((I1.mod.glob.keeps bk).keeps kk) gs ⟨mb, (B1.keeps bk).keeps kk, B2⟩ hget
        (fun h' tk' dx t1 k4 dn dne hx hn => ?_)))
    obtain ⟨G, g1', g2'⟩ := restrict h' fun b => decide (b ≠ hp.objs.size + 1)
    have gk : ∀ b, b ≠ hp.objs.size + 1 → G.get? b = h'.get? b := fun b hb => g1' b (decide_eq_true hb)
    have ge : G.get? (hp.objs.size + 1) = none := g2' _ (by simp)
    have dn2 : hp.objs.size ≤ dx := by
      have e1 : ((hp.push (PySem.W.kdv_tup [u])).push (HandSPX.excO C hp.objs.size)).objs.size = hp.objs.size + 2 := by rw [Heap.size_push, Heap.size_push]
      rw [e1] at dn
      omega
    have hn1 : H1 dx = none := I1.hok.fresh dn2
    have kG : ∀ b o, hp.get? b = some o → G.get? b = some o := fun b o z => by
      have nb : b ≠ hp.objs.size + 1 := Nat.ne_of_lt (Nat.lt_succ_of_lt (Heap.lt_size z))
      rw [gk b nb]
      exact k4 b o nb (kk b o z)
    have J : Inv X pins σ (upd H1 dx (.xd [(fld, y)])) ⟨G, g, dr, tk', os⟩ := I1.laid (t' := tk') (a := dx) (o := .xd [(fld, y)]) (h' := G) kG dn2 ⟨_, hn.at fun o z => (gk dx dne).trans z, relO_put (fs := []) ru fun _ => True.intro⟩
    refine ⟨rfl, hp.objs.size + 1, _, _, ⟨G, g, dr, tk', os⟩, _, .ref C, some dx, rfl, J, fun b o z => ?_, ge, hx, ⟨rfl, rfl, fun vs z => by cases z; rfl⟩, rfl, rfl, ?_, rfl, I1.bare, raises_own T.ex.exC T.ex.tyC, q1 dx hn1⟩
    · by_cases nb : b = hp.objs.size + 1
      · rw [nb, ge] at z
        cases z
      · exact (gk b nb).symm.trans z
    · rw [upd_ne (Ne.symm dne)]
      exact I1.hok.fresh (Nat.le_succ _)
end
end Ab
/-! Ab: a def that is called with the caught exception, within the except suite. -/
namespace Ab
open PySem PySem.Spec PyProof.Rows L2

variable [TabCtx]
/-- the context bears the caught exception's object -/
structure HCx (g : Pg) (N : List Str) (sc : Scope) (a : Addr) (oe : Obj) (Y : Cx) : Prop where
  P : Y.prog = g.P
  w : Y.w = g.w
  K : Y.K = g.K
  mg : Y.mg = g.mg
  base : Y.base = g.base
  N : Y.N = N
  sc : Y.env.scope = sc
  mem : (a, oe) ∈ Y.pn
/-- the exception: its class, its one field -/
structure Caught (K : PySem.W.Frag) (C d : Addr) (oe : Obj) : Prop where
  cls : ExcC K C
  z : Zc (.ref C) (some d) oe
  f : ∃ vs, oe.data = .fields vs

section
variable {Y : Cx} {a C d : Addr} {oe : Obj}
theorem caught_at {pins : List (Addr × Obj)} {σ : L2.St} {H : Hp} {s : Shared} {fs : List (Str × V)} (K : Caught Y.K C d oe) (hm : (a, oe) ∈ Y.pn) (I : Inv Y pins σ H s) (hd : H d = some (.xd fs)) :
    ∃ od mA, s.heap.get? d = some od ∧ PySem.W.InstAt s.heap a oe C (some od) ∧ s.heap.Ns1 d mA ∧ ∀ f, RelO (fs.lookup f) (mA f) := by
  obtain ⟨mA, hns, hr⟩ : ∃ mA, s.heap.Ns1 d mA ∧ ∀ f, RelO (fs.lookup f) (mA f) := I.hok d _ hd
  obtain ⟨od, es, ep, ho, rest⟩ := id hns
  obtain ⟨vs, hv⟩ := K.f
  have at_ := (I.pin (a, oe) (List.mem_append_left _ hm)).1
  refine ⟨od, mA, ho, ⟨at_, K.z.1, ?_, ?_⟩, hns, hr⟩
  · unfold PySem.W.notCls
    rw [hv] <;> rfl
  · rw [K.z.2]
    exact ho
def rIsX (K : PySem.W.Frag) (C a d : Addr) : List V → Hp → VK → Prop := fun xs H Q => ∃ (c : V) (cv : Value) (b : Bool) (fs : List (Str × V)), xs = [.ref a, c] ∧ (∀ u, RelV c u → u = cv) ∧ PySem.W.kitOne K (.ref C) cv = some b ∧ H d = some (.xd fs) ∧ Q (.bl b) H
theorem call_isX (K : Caught Y.K C d oe) (hm : (a, oe) ∈ Y.pn) : CallR Y (.builtin "isinstance") (rIsX Y.K C a d) := by
  intro pins s σ H xs us Q I r h
  obtain ⟨c, cv, b, fs, rfl, hcv, e, hd, q⟩ := h
  obtain ⟨u1, us1, rfl, e1, r1⟩ : ∃ u1 us1, us = u1 :: us1 ∧ u1 = .ref a ∧ Vals [c] us1 := by
    cases r with
    | cons h1 h2 => exact ⟨_, _, rfl, h1, h2⟩
  obtain ⟨u2, rfl, e2⟩ := r1.one
  subst e1
  have ec := hcv _ e2
  subst ec
  obtain ⟨od, mA, h1, h2, h3, h4⟩ := caught_at K hm I hd
  obtain ⟨cd, hcd, _⟩ := PySem.W.any_some K.cls.hd
  refine PySem.W.kia_one (PySem.W.kitx_exc (by rw [hcd]; rfl) K.cls.hg K.cls.hk K.cls.hs K.cls.ha K.cls.hn K.cls.ht K.cls.hm) I.kIn h2 e (fun z => nomatch z) fun tk => ?_
  exact ⟨.bl b, H, I.kept (t' := tk) fun _ _ z => z, rfl, q⟩
/-- e.f -/
def tFx (a d : Addr) (f : Str) (te : TE) : TE := fun σ H Q => te σ H fun x H1 => x = .ref a ∧ ∃ (fs : List (Str × V)) (v : V), H1 d = some (.xd fs) ∧ fs.lookup f = some v ∧ Q v H1
theorem pe_fx {e : Expr} {te : TE} {pos : Pos} {n : Str} (K : Caught Y.K C d oe) (hm : (a, oe) ∈ Y.pn) (hno : PySem.W.findIn Y.K (.ref C) n = some none) (he : PE Y e te) (hb : attributeBase e n Y.env (eval e Y.env) = eval e Y.env := by rfl) :
    PE Y (.Attribute e n pos) (tFx a d n te) := ⟨fun pins s σ H Q I h => attr_of hb (thn (he.run pins s σ H _ I h) fun u s1 hh => by
  obtain ⟨x, H1, J, rx, ex, fs, v, hd, l, q⟩ := hh
  subst ex
  cases rx
  obtain ⟨od, mA, h1, h2, h3, h4⟩ := caught_at K hm J hd
  obtain ⟨w, hw, rw'⟩ := RelO.some_of (v := v) (o := mA n) (by rw [← l]; exact h4 n)
  obtain ⟨od2, ho2, hl2⟩ := lookIn_ns h3
  rw [h1] at ho2
  cases ho2
  exact HandSPX.exc_get J.kIn h2 K.cls.hg K.cls.hk K.cls.hs (PySem.W.findObj_own K.cls.hd hno rfl (by rw [hl2, hw])) (handed_of rw') ⟨v, H1, J.tok _, rw', q⟩)⟩
/-- repr of a text -/
theorem call_reprS : CallR Y (.builtin "repr") (fun xs H Q => ∃ y : Str, xs = [.str y] ∧ (reprText y).length ≤ sizeLine ∧ Q (.str (reprText y)) H) := by
  intro pins s σ H xs us Q I r h
  obtain ⟨y, rfl, hz, q⟩ := h
  obtain ⟨u, rfl, t, rfl⟩ := r.one
  exact PySem.P.repr_of_str ⟨.str _, H, I.tok _, ⟨_, rfl⟩, q⟩ hz
end

/-! ### the statements of such a def: slot 0 the exception, slot 1 the list told -/
section
variable {g : Pg} {N : List Str} {sc : Scope} {a C d : Addr} {oe : Obj} {Y : Cx} {e0 e1 D fld : Str} {c cv : Value} {b : Bool}
/-- the state: the field's value is a text -/
structure SHot (a d : Addr) (fld w : Str) (p : Addr) (ts : List Str) (σ : L2.St) (H : Hp) : Prop where
  s0 : σ[0]? = some (some (.ref a))
  s1 : σ[1]? = some (some (.ref p))
  xd : H d = some (.xd [(fld, .str w)])
  told : H p = some (.lst (ts.map .str))
/-- what the tests ask -/
def S0 (a d : Addr) (σ : L2.St) (H : Hp) : Prop := σ[0]? = some (some (.ref a)) ∧ ∃ fs, H d = some (.xd fs)
theorem SHot.s {a d : Addr} {fld w : Str} {p : Addr} {ts : List Str} {σ : L2.St} {H : Hp} (s : SHot a d fld w p ts σ H) : S0 a d σ H := ⟨s.s0, _, s.xd⟩
def tIs (K : PySem.W.Frag) (C a d : Addr) (c : V) : TE := tCB (rIsX K C a d) (tCons (tVar 0) (tCons (tC c) tNil))
theorem pe_is {p0 p1 p2 pos : Pos} {x2 : Str} (hY : HCx g N sc a oe Y) (K : Caught g.K C d oe) (h0 : N[0]? = some e0) (hv : Vis sc e0) (hdb : (e0 == ("__debug__" : Str)) = false) (hcd : (e0 == ("__classdict__" : Str)) = false)
    (hi : sc.names.lookup ("isinstance" : Str) = some .globalImplicit) (hmi : g.mg "isinstance" = none) {c : V} (hc : PE Y (.Name x2 p2) (tC c)) :
    PE Y (.Call (.Name "isinstance" p0) [.Name e0 p1, .Name x2 p2] [] pos) (tIs g.K C a d c) := by
  have K' : Caught Y.K C d oe := by rw [hY.K]; exact K
  have := call_isX K' hY.mem
  rw [hY.K] at this
  exact pe_callB this (by show Y.env.scope.names.lookup _ = _; rw [hY.sc]; exact hi) (by rw [hY.mg]; exact hmi) PyProof.Rows.Boot.«isinstance» (pa_cons (pe_var (by rw [hY.N]; exact h0) (by rw [hY.sc]; exact hv) hdb hcd) (pa_cons hc pa_nil))
theorem rd_is {σ : L2.St} {H : Hp} {Q : VK} {c : V} (s : S0 a d σ H) (hcv : ∀ u, RelV c u → u = cv) (hk : PySem.W.kitOne g.K (.ref C) cv = some b) (q : Q (.bl b) H) : tIs g.K C a d c σ H Q :=
  ⟨_, s.1, c, cv, b, _, rfl, hcv, hk, s.2.choose_spec, q⟩

theorem pss_weak {sts : List Stmt} {t t' : TS} (h : PSs Y sts t) (w : ∀ D σ H, t' D σ H → t D σ H) : PSs Y sts t' := ⟨fun pins s σ H D I q => h.run pins s σ H D I (w D σ H q)⟩
/-- a test's value where S -/
def TestIs (Y : Cx) (test : Expr) (S : L2.St → Hp → Prop) (b : Bool) : Prop := ∃ tt : TT, PT Y test tt ∧ ∀ (σ : L2.St) (H : Hp) (Q : Bool → Hp → Prop), S σ H → Q b H → tt σ H Q
theorem sq_no {test : Expr} {ys rest : List Stmt} {pos : Pos} {S : L2.St → Hp → Prop} {t : TS} (h : TestIs Y test S false) (r : PSs Y rest t) : PSs Y (.If test ys [] pos :: rest) (fun D σ H => S σ H ∧ t D σ H) := by
  obtain ⟨tt, h1, h2⟩ := h
  exact pss_weak (pss_cons (ps_if h1 pss_dead pss_nil) r) fun D σ H q => h2 _ _ _ q.1 q.2
theorem sq_yes {test : Expr} {ys rest : List Stmt} {pos : Pos} {S : L2.St → Hp → Prop} {t tb : TS} (h : TestIs Y test S true) (hb : PSs Y ys tb) (r : PSs Y rest t) :
    PSs Y (.If test ys [] pos :: rest) (fun D σ H => S σ H ∧ tb { D with nx := t D } σ H) := by
  obtain ⟨tt, h1, h2⟩ := h
  exact pss_weak (pss_cons (ps_if h1 hb pss_nil) r) fun D σ H q => h2 _ _ _ q.1 q.2
theorem TestIs.not {test : Expr} {pos : Pos} {S : L2.St → Hp → Prop} (h : TestIs Y test S b) : TestIs Y (.UnaryOp .Not test pos) S (!b) := by
  obtain ⟨tt, h1, h2⟩ := h
  exact ⟨_, pt_not h1, fun σ H Q s q => h2 σ H _ s q⟩
theorem TestIs.or3 {a1 a2 a3 : Expr} {pos : Pos} {S : L2.St → Hp → Prop} (h1 : TestIs Y a1 S false) (h2 : TestIs Y a2 S false) (h3 : TestIs Y a3 S false) : TestIs Y (.BoolOp .Or [a1, a2, a3] pos) S false := by
  obtain ⟨t1, p1, q1⟩ := h1
  obtain ⟨t2, p2, q2⟩ := h2
  obtain ⟨t3, p3, q3⟩ := h3
  exact ⟨_, (pw_or p1 (pw_or p2 (pw_or1 p3))).pt, fun σ H Q s q => q1 _ _ _ s (q2 _ _ _ s (q3 _ _ _ s q))⟩
/-- what such a def's scope has -/
structure HSc (g : Pg) (N : List Str) (sc : Scope) (e0 e1 : Str) : Prop where
  h0 : N[0]? = some e0
  h1 : N[1]? = some e1
  nd : N.Nodup
  v0 : sc.names.lookup e0 = some .local
  v1 : sc.names.lookup e1 = some .local
  d0 : (e0 == ("__debug__" : Str)) = false
  c0 : (e0 == ("__classdict__" : Str)) = false
  d1 : (e1 == ("__debug__" : Str)) = false
  c1 : (e1 == ("__classdict__" : Str)) = false
  gi : sc.names.lookup ("isinstance" : Str) = some .globalImplicit
  gr : sc.names.lookup ("repr" : Str) = some .globalImplicit
  gt : sc.names.lookup ("tuple" : Str) = some .globalImplicit
  mi : g.mg "isinstance" = none
  mr : g.mg "repr" = none
  mt : g.mg "tuple" = none
section
variable {fld w pre : Str} {p : Addr} {ts : List Str} {p0 p1 p2 p3 p4 p5 p6 p7 p8 p9 pos : Pos} {x2 : Str}
theorem HCx.e (hY : HCx g N sc a oe Y) (hs : HSc g N sc e0 e1) : PE Y (.Name e0 pos) (tVar 0) := pe_var (by rw [hY.N]; exact hs.h0) (by rw [hY.sc]; exact .inl hs.v0) hs.d0 hs.c0
theorem HCx.l (hY : HCx g N sc a oe Y) (hs : HSc g N sc e0 e1) : PE Y (.Name e1 pos) (tVar 1) := pe_var (by rw [hY.N]; exact hs.h1) (by rw [hY.sc]; exact .inl hs.v1) hs.d1 hs.c1
/-- isinstance(e, D) -/
theorem TestIs.cls (hY : HCx g N sc a oe Y) (hs : HSc g N sc e0 e1) (K : Caught g.K C d oe) {Da : Addr} (hD : g.mg x2 = some (.ref Da)) (hk : PySem.W.kitOne g.K (.ref C) (.ref Da) = some b) (hg : sc.names.lookup x2 = some .globalImplicit := by rfl) (hd : (x2 == ("__debug__" : Str)) = false := by decide) :
    TestIs Y (.Call (.Name "isinstance" p0) [.Name e0 p1, .Name x2 p2] [] pos) (S0 a d) b :=
  ⟨_, pt_val (pe_is hY K hs.h0 (.inl hs.v0) hs.d0 hs.c0 hs.gi hs.mi (pe_glob (v := .ref Da) (u := .ref Da) (by show Y.env.scope.names.lookup _ = _; rw [hY.sc]; exact hg) (by rw [hY.mg]; exact hD) rfl hd)), fun σ H Q s q => rd_is (cv := .ref Da) (b := b) s (fun u h => h) hk ⟨b, rfl, q⟩⟩
theorem TestIs.ve (hY : HCx g N sc a oe Y) (hs : HSc g N sc e0 e1) (K : Caught g.K C d oe) (hm : g.mg "ValueError" = none) (hk : PySem.W.kitOne g.K (.ref C) (.type "ValueError") = some b) (hg : sc.names.lookup ("ValueError" : Str) = some .globalImplicit := by rfl) :
    TestIs Y (.Call (.Name "isinstance" p0) [.Name e0 p1, .Name "ValueError" p2] [] pos) (S0 a d) b :=
  ⟨_, pt_val (pe_is hY K hs.h0 (.inl hs.v0) hs.d0 hs.c0 hs.gi hs.mi (pe_bltn (v := .ty "ValueError") (u := .type "ValueError") (by show Y.env.scope.names.lookup _ = _; rw [hY.sc]; exact hg) (by rw [hY.mg]; exact hm) PyProof.Rows.Boot.«ValueError» rfl)), fun σ H Q s q => rd_is (cv := .type "ValueError") (b := b) s (fun u h => h) hk ⟨b, rfl, q⟩⟩
/-- told.append(pre + repr(e.fld)) -/
theorem sq_app (hY : HCx g N sc a oe Y) (hs : HSc g N sc e0 e1) (K : Caught g.K C d oe) (hno : PySem.W.findIn g.K (.ref C) fld = some none) {jj : Nat} (hw : (reprText w).length ≤ sizeLine) (hpw : pre.length + (reprText w).length ≤ sizeLine)
    (hline : (p1.endLine == p6.line) = true := by rfl) (hnn : swapsWith (.Call (.Attribute (.Name e1 p0) "append" p1) [.BinOp (.Constant (.str pre) jj p2) .Add (.Call (.Name "repr" p3) [.Attribute (.Name e0 p4) fld p5] [] p8) p9] [] p6) none p7.line Y.env = pure false := by rfl) :
    PSs Y [.Expr (.Call (.Attribute (.Name e1 p0) "append" p1) [.BinOp (.Constant (.str pre) jj p2) .Add (.Call (.Name "repr" p3) [.Attribute (.Name e0 p4) fld p5] [] p8) p9] [] p6) p7] (fun D σ H => ∃ p ts, SHot a d fld w p ts σ H ∧ ts.length < 100000 ∧ D.nx σ (upd H p (.lst ((ts ++ [pre ++ reprText w]).map .str)))) := by
  have K' : Caught Y.K C d oe := by rw [hY.K]; exact K
  have hno' : PySem.W.findIn Y.K (.ref C) fld = some none := by rw [hY.K]; exact hno
  have r1 := pe_callB (pos := p8) (p := p3) (call_reprS (Y := Y)) (x := "repr") (by show Y.env.scope.names.lookup _ = _; rw [hY.sc]; exact hs.gr) (by rw [hY.mg]; exact hs.mr) PyProof.Rows.Boot.«repr» (pa_cons (pe_fx (pos := p5) K' hY.mem hno' (hY.e (pos := p4) hs)) pa_nil)
  have r2 := pe_bm (apos := p1) (cpos := p6) PySem.F.plainAttrs_list PySem.F.slot_list_append PySem.F.type_list_append mt_append (hY.l (pos := p0) hs) (pa_cons (pe_op (pos := p9) op_add_str (pe_str (x := pre) (j := jj) (pos := p2)) r1) pa_nil) rfl rfl hline rfl rfl
  refine pss_weak (pss_one (ps_expr r2 hnn)) fun D σ H q => ?_
  obtain ⟨p, ts, s, hz, q⟩ := q
  refine ⟨_, s.s1, .inl ⟨rfl, _, sql_uniq s.told⟩, ?_⟩
  refine ⟨_, s.s0, rfl, _, .str w, s.xd, by simp [List.lookup], w, rfl, hw, pre, reprText w, rfl, rfl, hpw, p, _, _, rfl, rfl, s.told, ?_, ?_⟩
  · rw [List.length_map]
    exact sz_lt hz
  · rw [List.map_append] at q
    exact q
/-- told = [z] -/
theorem sq_start {rest : List Stmt} {t : TS} {z : Str} {jj kk : Nat} (hY : HCx g N sc a oe Y) (hs : HSc g N sc e0 e1) (r : PSs Y rest t) (hsw : swapsWith (.List [.Constant (.str z) jj p0] p1) (some (.Name e1 p2)) p3.line Y.env = pure false := by rfl) :
    PSs Y (.Assign [.Name e1 p2] (.List [.Constant (.str z) jj p0] p1) p3 :: rest) (fun D σ H => 1 < σ.length ∧ ∀ p, H p = none → t D (σ.set 1 (some (.ref p))) (upd H p (.lst [.str z]))) := by
  refine pss_weak (pss_cons (ps_set (i := 1) (by rw [hY.N]; exact hs.nd) (by rw [hY.N]; exact hs.h1) (.inl (by rw [hY.sc]; exact hs.v1)) (pe_lst (pa_cons pe_str pa_nil)) hsw (.inr (by rw [hY.sc]; exact hs.v1))) r) fun D σ H q => ?_
  exact ⟨by show 1 ≤ sizeLine; rw [sizeLine_eq]; omega, fun p hp => q.2 p hp⟩
/-- return tuple(told) -/
theorem sq_end (hY : HCx g N sc a oe Y) (hs : HSc g N sc e0 e1) : PSs Y [.Return (some (.Call (.Name "tuple" p0) [.Name e1 p1] [] p2)) p3] (fun D σ H => ∃ p ts, SHot a d fld w p ts σ H ∧ ∀ l, H l = none → D.rt (.ref l) (upd H l (.tup (ts.map .str)))) := by
  refine pss_weak (pss_one (ps_ret (pe_callTy call_tuple_of (x := "tuple") (by show Y.env.scope.names.lookup _ = _; rw [hY.sc]; exact hs.gt) (by rw [hY.mg]; exact hs.mt) PyProof.Rows.Boot.«tuple» (pa_cons (hY.l hs) pa_nil)))) fun D σ H q => ?_
  obtain ⟨p, ts, s, q⟩ := q
  exact ⟨_, s.s1, p, _, rfl, .inl ⟨sql_uniq s.told, q⟩⟩
end
end

/-! ### the def, called in the suite -/
theorem upd_upd {H : Hp} {p : Addr} {x y : HO} : upd (upd H p x) p y = upd H p y := by
  funext b
  by_cases h : b = p
  · rw [h, upd_same, upd_same]
  · rw [upd_ne h, upd_ne h, upd_ne h]
/-- the def named x makes, of an exception of the class C with the field's text w, the tuple of the texts r -/
def FR (g : Pg) (x : Str) (k : Nat) (C : Addr) (fld w : Str) (r : List Str) : Prop := ∃ (f : Addr) (fd : FuncData) (e0 : Str), g.mg x = some (.ref f) ∧ PySem.W.keepIn g.K (.ref f) = true ∧ Binds g.K fd [e0] [] ∧
  ∀ (A : Around) (outer : List Env) (s : Shared) (H : Hp) (Q : VK) (p : Addr × Obj) (d : Addr), L2H.RoomH k A → L2H.Hot1 A p → L2H.PinOk outer H s p → Env0 g.P g.w g.K g.mg g.base A outer s H → BindsTo s fd ⟨[.ref p.1], []⟩ [(e0, .ref p.1)] →
    Caught g.K C d p.2 → H d = some (.xd [(fld, .str w)]) → (∀ pl l, H pl = none → H l = none → l ≠ pl → Q (.ref l) (upd (upd H pl (.lst (r.map .str))) l (.tup (r.map .str)))) →
      codeAny (model g.P g.w) A (.call (.ref f) ⟨[.ref p.1], []⟩) (CR CX0 outer g.P g.w H s Q E0) s
theorem FR.mk {g : Pg} {x : Str} {st : Stmt} {N : List Str} {e0 : Str} {k : Nat} {C : Addr} {fld w : Str} {r : List Str} (T : TxtF g x st) (S : FnScope N [e0] (defScope st))
    (hb : ∀ (kV doc pm : Value) (an : Option Addr) (cdv ct : Value) (us : List Value), us.length = ([e0] : List Str).length → bindArgs (PySem.W.fnOf x x (defArgs st) (defBody st) (defScope st) .none kV doc pm an cdv ct) ⟨us, []⟩ = pure (([e0] : List Str).zip us))
    (body : ∀ (Y : Cx) (a d : Addr) (oe : Obj), HCx g N (defScope st) a oe Y → Caught g.K C d oe → ∃ t : TS, PSs Y (defBody st) t ∧ ∀ (D : Ends) (H : Hp), H d = some (.xd [(fld, .str w)]) →
      (∀ pl l, H pl = none → H l = none → l ≠ pl → D.rt (.ref l) (upd (upd H pl (.lst (r.map .str))) l (.tup (r.map .str)))) → t D (L2.start N [.ref a]) H) : FR g x (k + 1) C fld w r := by
  obtain ⟨f, fd, F, hm⟩ := T.fn
  refine ⟨f, fd, e0, hm, F.kp, F.binds hb, ?_⟩
  obtain ⟨oc, od, kV, doc, pm, an, cdv, ct, osl, rfl, lk, hcd⟩ := F.ex
  intro A outer s H Q p d hr hot hpin e0' bnd hc hd hq
  have KX : g.K.In s.heap := e0'.mod.kin.keeps fun b o z => (e0'.bs b o z).1
  refine codeAny_call_function hr.depth (KX _ _ lk) rfl S.co S.gen rfl (PySem.W.codeRec_of KX hcd) (bnd _ _ _ _ (wpAny_newFunctionEnv_cells S.kind (fun y hy => ?_) fun env he s1 z => ?_))
  · obtain rfl := List.mem_singleton.mp hy
    rcases S.par e0 (List.mem_singleton.mpr rfl) with q | q
    · exact .inl q
    · exact .inr ⟨q, PySem.W.cellsFrom_some _ _ _ (.inl q)⟩
  · subst he
    refine ⟨(e0'.mod.nolimit.keeps fun b o q => (e0'.bs b o q).1).keeps z.toInCall.keep, codeAny_func ?_⟩
    have J : Inv (L2H.cxH CX0 g.P g.w g.K g.mg g.base N x (defScope st) f cdv A outer s H E0 p) [] (L2.start N [.ref p.1]) H s1 := L2H.inv_startH S hpin e0' rfl (.cons rfl .nil) z
    obtain ⟨t, h1, h2⟩ := body (L2H.cxH CX0 g.P g.w g.K g.mg g.base N x (defScope st) f cdv A outer s H E0 p) p.1 d p.2 ⟨rfl, rfl, rfl, rfl, rfl, rfl, rfl, by show p ∈ [p]; exact List.mem_singleton.mpr rfl⟩ hc
    refine wpAny_mono (h1.run [] s1 _ H ⟨fun _ _ => False, Q, fun _ _ => False, fun _ _ => False⟩ J (h2 _ H hd hq)) (fun fl s2 hs => ?_) fun e s2 hs => hs
    cases fl with
    | ret u =>
      obtain ⟨v, σ', H', J', rv, q⟩ := hs
      exact ⟨v, H', J'.os, J'.bare, J'.base, J'.hok, rv, q⟩
    | next =>
      obtain ⟨_, _, _, q⟩ := hs
      exact q.elim
    | brk =>
      obtain ⟨_, _, _, q⟩ := hs
      exact q.elim
    | cont =>
      obtain ⟨_, _, _, q⟩ := hs
      exact q.elim
end Ab
/-! Ab: defs that may raise, and the try that takes it. -/
namespace Ab
open PySem PySem.Spec PyProof.Rows L2
variable [TabCtx]

inductive OutX where
  | ok (r : Out) | xc (Ca : Addr) (fld w : Str) (M : Mem)
def EndX (D : Ends) (W : WX) (I H : Hp) (adr : List Addr) : OutX → Prop
  | .ok r => End D I H adr r
  | .xc Ca fld w M => ∀ (d : Addr) (I' H' : Hp) (adr' : List Addr) (σ' : L2.St), Ex I' H' → Sto I' H' adr' M → Grow I H adr I' H' adr' → H' d = some (.xd [(fld, .str w)]) → W (.ref Ca) (some d) σ' H'
theorem EndX.mono {D : Ends} {W : WX} {I H I1 H1 : Hp} {adr adr1 : List Addr} (g : Grow I H adr I1 H1 adr1) : ∀ {r : OutX}, EndX D W I H adr r → EndX D W I1 H1 adr1 r
  | .ok _, h => End.mono g h
  | .xc _ _ _ _, h => fun d I' H' adr' σ' e s k z => h d I' H' adr' σ' e s (g.trans k) z
def UX (C : Cc) (W : WX) (sts : List Stmt) : TS := fun D σ H => ∃ t : TS, (∀ X, CxIs C X → L2N.Takes X W → PSs X sts t) ∧ t D σ H
theorem ux {C : Cc} {W : WX} {X : Cx} (h : CxIs C X) (tk : L2N.Takes X W) (sts : List Stmt) : PSs X sts (UX C W sts) := ⟨fun pins s σ H D I q => let ⟨_, p, q⟩ := q; (p X h tk).run pins s σ H D I q⟩
/-- a block that may raise -/
def SX (C : Cc) (sts : List Stmt) (E : List O) (M : Mem) (r : OutX) : Prop :=
  ∀ (W : WX) (I H : Hp) (adr : List Addr) (σ : L2.St) (D : Ends), Stt I H adr σ E M → EndX D W I H adr r → UX C W sts D σ H
section
variable {C : Cc} {E E1 : List O} {M M1 M' : Mem} {st : Stmt} {sts : List Stmt} {r : OutX} {c : Expr} {pos : Pos}
theorem SX.of {q : Out} (h : SB C sts E M q) : SX C sts E M (.ok q) := fun W I H adr σ D s q => ⟨UB C sts, fun X hX _ => ub hX sts, h I H adr σ D s q⟩
theorem SX.cons (h : ST C st E M (.nx E1 M1)) (hr : SX C sts E1 M1 r) : SX C (st :: sts) E M r := fun W I H adr σ D s q =>
  ⟨_, fun X hX tk => pss_cons (us hX st) (ux hX tk sts), h I H adr σ { D with nx := UX C W sts D } s fun I1 H1 adr1 σ1 s1 g1 => hr W I1 H1 adr1 σ1 D s1 (q.mono g1)⟩
theorem SX.guard {k : Bool} {ys : List Stmt} (hc : ET C c E M k M1) (h1 : k = true → ∃ Ca fld w M2, r = .xc Ca fld w M2 ∧ SX C ys E M1 r) (h2 : k = false → SX C sts E M1 r) : SX C (.If c ys [] pos :: sts) E M r := fun W I H adr σ D s q => by
  cases k with
  | true =>
    obtain ⟨Ca, fld, w, M2, rfl, h⟩ := h1 rfl
    refine ⟨_, fun X hX tk => pss_cons (ps_if (ut hX c) (ux hX tk ys) pss_dead) pss_dead, ?_⟩
    refine hc I H adr σ _ s fun I1 H1 adr1 s1 g1 => ?_
    show UX C W ys { D with nx := fun _ _ => False } σ H1
    exact h W I1 H1 adr1 σ _ s1 (EndX.mono g1 q)
  | false =>
    refine ⟨_, fun X hX tk => pss_cons (ps_if (ut hX c) pss_dead pss_nil) (ux hX tk sts), ?_⟩
    refine hc I H adr σ _ s fun I1 H1 adr1 s1 g1 => ?_
    show UX C W sts D σ H1
    exact h2 rfl W I1 H1 adr1 σ D s1 (q.mono g1)
/-- raise X(w) -/
theorem SX.raise {x fld arg w : Str} {Ca fI : Addr} {st0 : Stmt} {a : Expr} {p p2 p3 : Pos} (T : SupC C.g.P C.g.K Ca fI st0 fld) (S : SupT st0 arg fld) (hm : C.g.mg x = some (.ref Ca)) (gs : C.g.mg "super" = none) (ha : EA C [a] E M [.dat (.str w)] M1) (hk : Nat.ble 1 C.k = true := by rfl) (hg : C.sc.names.lookup x = some .globalImplicit := by rfl)
    (hdb : (x == ("__debug__" : Str)) = false := by decide) (he : ∀ env, starEach [a] env = (false, eval a env) :: starEach [] env := by intro _; rfl) (hpl : ∀ env, (backTo p2 (starEach [] env)).any (·.1) = false := by intro _; rfl) :
    SX C [.Raise (some (.Call (.Name x p) [a] [] p2)) none p3] E M (.xc Ca fld w M1) := fun W I H adr σ D s q => by
  refine ⟨_, fun X hX tk => pss_one (L2N.ps_raise hX.calm tk (pmk_sup (k := C.k - 1) (C := Ca) (fI := fI) (st := st0) (fld := fld) (arg := arg) (by rw [hX.P, hX.K]; exact T) S (by have := Nat.le_of_ble_eq_true hk; rw [Nat.sub_add_cancel this]; exact hX.room) (by show X.env.scope.names.lookup _ = _; rw [hX.sc]; exact hg) (by rw [hX.mg]; exact hm) (by rw [hX.mg]; exact gs) (ua hX [a]) hdb (he X.env) (hpl X.env))), ?_⟩
  refine ha I H adr σ _ s fun vs I1 H1 adr1 s1 g1 v1 => ?_
  obtain ⟨y, ey, hy⟩ := vsOne v1
  subst ey
  have hy' : Rep I1 (.str w) y := hy
  cases hy'
  refine ⟨_, rfl, fun d hd => ?_⟩
  have fr : ∀ (b : Addr) (u : HO), H1 b = some u → upd H1 d (.xd [(fld, .str w)]) b = some u := fun b u z => by rw [upd_ne (ne_of_none z hd)]; exact z
  refine q d I1 _ adr1 σ (s1.ex.trans (Ex.new hd)) ?_ (g1.trans ?_) upd_same
  · exact ⟨s1.sto.len, s1.sto.nd, fun k a os h1 h2 => let ⟨c1, xs, c2, c3⟩ := s1.sto.cell k a os h1 h2; ⟨c1, xs, fr _ _ c2, c3⟩, fun k a h => let ⟨u, h1, h2⟩ := s1.sto.dom k a h; ⟨u, fr _ _ h1, h2⟩, s1.sto.amb.new hd⟩
  · exact ⟨Ex.refl _, ⟨[], by simp, by simp⟩, fun p u h _ _ => fr _ _ h, fun p u h n => ⟨u, fr _ _ h, n⟩, fun p u _ _ h _ => h, fun c q h => fr _ _ h⟩
end

/-! ### defs that may raise -/
abbrev RelX := List O → Mem → OutX → Prop
def spX (R : RelX) : Sp := fun vs H Q E => ∃ (I : Hp) (adr : List Addr) (os : List O) (M : Mem) (r : OutX), R os M r ∧ Ex I H ∧ Sto I H adr M ∧ Vs I adr os vs ∧
  match r with
  | .ok (.rt o M') => ∀ v I' H' adr', Ex I' H' → Sto I' H' adr' M' → Grow I H adr I' H' adr' → Vo I' adr' o v → Q v H'
  | .ok _ => False
  | .xc Ca fld w M' => ∀ (d : Addr) (I' H' : Hp) (adr' : List Addr), Ex I' H' → Sto I' H' adr' M' → Grow I H adr I' H' adr' → H' d = some (.xd [(fld, .str w)]) → E (.ref Ca) (some d) H'
def FNX (g : Pg) (x : Str) (k : Nat) (R : RelX) : Prop := ∃ (f : Addr) (fd : FuncData) (ps : List Str), FnOk g.P g.w g.K g.mg g.base (L2N.CX g.P g.w) k f fd ps (spX R) ∧ g.mg x = some (.ref f) ∧ PySem.W.keepIn g.K (.ref f) = true ∧ Binds g.K fd ps []
theorem stt_pad {I H : Hp} {adr : List Addr} {N : List Str} {os : List O} {M : Mem} {vs : List V} (ex : Ex I H) (sto : Sto I H adr M) (v : Vs I adr os vs) : Stt I H adr (L2.start N vs) (pad N os) M := by
  refine ⟨ex, sto, ?_, fun i p ov h1 h2 => ?_⟩
  · unfold pad L2.start
    rw [List.length_append, List.length_append, List.length_map, List.length_replicate, List.length_replicate, v.length]
  · unfold pad at h1
    unfold L2.start at h2
    by_cases hi : i < os.length
    · rw [List.getElem?_append_left hi] at h1
      obtain ⟨w, e1, e2⟩ := v.get h1
      rw [List.getElem?_append_left (by rw [List.length_map, ← v.length]; exact hi), List.getElem?_map, e1] at h2
      cases h2
      exact e2
    · rw [List.getElem?_append_right (Nat.le_of_not_lt hi)] at h1
      obtain rfl : p = .no := List.eq_of_mem_replicate (List.mem_of_getElem? h1)
      cases ov with
      | none => rfl
      | some w => exact True.intro
theorem FNX.mk {g : Pg} {x : Str} {st : Stmt} {N ps : List Str} {k : Nat} {R : RelX} (T : TxtF g x st) (S : FnScope N ps (defScope st))
    (hb : ∀ (kV doc pm : Value) (an : Option Addr) (cdv ct : Value) (us : List Value), us.length = ps.length → bindArgs (PySem.W.fnOf x x (defArgs st) (defBody st) (defScope st) .none kV doc pm an cdv ct) ⟨us, []⟩ = pure (ps.zip us))
    (hl : ∀ os M r, R os M r → os.length = ps.length) (body : ∀ os M r, R os M r → SX (mkC g N st k) (defBody st) (pad N os) M r) : FNX g x (k + 1) R := by
  obtain ⟨f, fd, F, hm⟩ := T.fn
  refine ⟨f, fd, ps, ?_, hm, F.kp, F.binds hb⟩
  obtain ⟨oc, od, kV, doc, pm, an, cdv, ct, osl, rfl, lk, hcd⟩ := F.ex
  refine fn_of lk hcd S (fun vs H Q E h => ?_) fun A outer s H vs Q E hr h => ?_
  · obtain ⟨I, adr, os, M, r, h1, _, _, v, _⟩ := h
    rw [← v.length]
    exact hl _ _ _ h1
  · obtain ⟨I, adr, os, M, r, h1, ex, sto, v, q⟩ := h
    have cx : CxIs (mkC g N st k) (cxOf (L2N.CX g.P g.w) g.P g.w g.K g.mg g.base N x (defScope st) f cdv A outer s H E) := ⟨rfl, rfl, rfl, rfl, rfl, rfl, rfl, rfl, hr, L2.passes_of rfl, takes0, fun _ _ => rfl, fun _ _ z => (by cases z), ⟨_, _, rfl, S.gen, S.co, rfl, rfl⟩⟩
    refine ⟨_, ux (W := fun cls d _ H => E cls d H) cx (L2N.takes_of rfl rfl rfl rfl) _, body os M r h1 _ I H adr _ _ (stt_pad ex sto v) ?_⟩
    cases r with
    | ok r =>
      cases r with
      | rt o M' => exact fun w I' H' adr' s' g' v' => q w I' H' adr' s'.ex s'.sto g' v'
      | nx _ _ => exact q.elim
      | bk _ _ => exact q.elim
      | ct _ _ => exact q.elim
    | xc Ca fld w M' => exact fun d I' H' adr' σ' e s' g' z => q d I' H' adr' e s' g' z
/-- data in; data or an exception out -/
inductive DX where
  | val (d : D) | exc (Ca : Addr) (fld w : Str)
def DX.out (M : Mem) : DX → OutX
  | .val d => .ok (.rt (.dat d) M)
  | .exc Ca fld w => .xc Ca fld w M
def PX (F : List D → DX → Prop) : RelX := fun os M r => ∃ ds q, os = ds.map .dat ∧ M = [] ∧ r = q.out [] ∧ F ds q
section
variable {C : Cc} {E E1 : List O} {M M1 M' : Mem} {pos p p2 : Pos} {x : Str} {e : Expr} {es : List Expr} {k : Nat} {F : List D → DX → Prop}
/-- return f(..) -/
theorem SX.ret {ds : List D} {r : DX} (Fn : FNX C.g x k (PX F)) (ha : EA C (e :: es) E M (ds.map .dat) M1) (hR : F ds r) (hk : Nat.ble k C.k = true := by rfl) (hg : C.sc.names.lookup x = some .globalImplicit := by rfl)
    (hdb : (x == ("__debug__" : Str)) = false := by decide) (he : ∀ env, starEach (e :: es) env = (false, eval e env) :: starEach es env := by intro _; rfl) (hpl : ∀ env, (backTo pos (starEach es env)).any (·.1) = false := by intro _; rfl) :
    SX C [.Return (some (.Call (.Name x p) (e :: es) [] pos)) p2] E M (r.out M1) := fun W I H adr σ D s q => by
  obtain ⟨f, fd, ps, F1, hm, hkp, hb⟩ := Fn
  refine ⟨_, fun X hX tk => pss_one (ps_ret (pe_callS (CX := L2N.CX X.prog X.w) (k := k) (f := f) (fd := fd) (ps := ps) (sp := spX (PX F)) (E := WE W) (by rw [hX.P, hX.w, hX.K, hX.mg, hX.base]; exact F1) (hX.room.mono (Nat.le_of_ble_eq_true hk)) (by show X.env.scope.names.lookup _ = _; rw [hX.sc]; exact hg) (by rw [hX.mg]; exact hm) (by rw [hX.K]; exact hkp) (by rw [hX.K]; exact hb) (fun σ => L2N.passAt tk σ) (ua hX (e :: es)) hdb (he X.env) (hpl X.env))), ?_⟩
  refine ha I H adr σ _ s fun vs I1 H1 adr1 s1 g1 v1 => ?_
  obtain ⟨adr0, sto0, vs0, back⟩ := call_mix s1 (mix0 (M := M1))
  refine ⟨I1, adr0, ds.map .dat, [], r.out [], ⟨ds, r, rfl, rfl, rfl, hR⟩, s1.ex, sto0, vs0 _ _ (by rw [ren_dat]; exact v1), ?_⟩
  cases r with
  | val d =>
    intro v I2 H2 adr2 ex2 sto2 g2 v2
    obtain ⟨adr3, s3, g3, dr⟩ := back I2 H2 adr2 ex2 sto2 g2
    exact q v I2 H2 adr3 ⟨s3.ex, s3.sto, rfl, fun i o ov h _ => by simp at h⟩ (g1.trans g3) (dr (.dat d) v v2)
  | exc Ca fld w =>
    intro dd I2 H2 adr2 ex2 sto2 g2 z
    obtain ⟨adr3, s3, g3, dr⟩ := back I2 H2 adr2 ex2 sto2 g2
    exact q dd I2 H2 adr3 σ ex2 s3.sto (g1.trans g3) z
end

/-! ### try: return f(..) / except X as n: return h(n) -/
section
variable {g : Pg} {N : List Str} {sc : Scope} {h n : Str} {i k : Nat}
def tSuite (g : Pg) (h : Str) (k i : Nat) (a : Addr) (cls : Value) (d : Option Addr) : TS := fun D σ H => ∃ (Ca dd : Addr) (fld w : Str) (ts : List Str), cls = .ref Ca ∧ d = some dd ∧ FR g h k Ca fld w ts ∧ ExcC g.K Ca ∧ (∃ σ0 : L2.St, σ = σ0.set i (some (.ref a))) ∧ H dd = some (.xd [(fld, .str w)]) ∧
  ∀ pl l, H pl = none → H l = none → l ≠ pl → D.rt (.ref l) (upd (upd H pl (.lst (ts.map .str))) l (.tup (ts.map .str)))
theorem suite_ok {X : Cx} {q1 q2 q3 q4 : Pos} (hX : CxIs ⟨g, N, sc, fun _ => true, k, W0, none⟩ X) (hi : N[i]? = some n) (hln : sc.names.lookup n = some .local) (hg : sc.names.lookup h = some .globalImplicit) (hdh : (h == ("__debug__" : Str)) = false) (hd : (n == ("__debug__" : Str)) = false) (hcd : (n == ("__classdict__" : Str)) = false)
    (a : Addr) (oe : Obj) (cls : Value) (d : Option Addr) (pn : List (Addr × Obj)) (hz : L2N.Zn cls d oe) (hf : ∃ vs, oe.data = .fields vs) :
    PSs (X.suite a ((a, oe) :: pn)) [.Return (some (.Call (.Name h q1) [.Name n q2] [] q3)) q4] (tSuite g h k i a cls d) := by
  refine ⟨fun pins s σ H D I q => ?_⟩
  obtain ⟨Ca, dd, fld, w, ts, rfl, rfl, ⟨f, fd, e0, hm, hkp, hb, run⟩, hE, ⟨σ0, rfl⟩, hxd, q⟩ := q
  obtain ⟨vs, hv⟩ := hf
  have hY : (X.suite a ((a, oe) :: pn)).K = g.K := hX.K
  have hi' : i < (σ0.set i (some (V.ref a))).length := by
    rw [I.len]
    show i < X.N.length
    rw [hX.N]
    exact (List.getElem?_eq_some_iff.mp hi).1
  have hσ : (σ0.set i (some (V.ref a)))[i]? = some (some (.ref a)) := List.getElem?_set_self (by simpa using hi')
  have pe : PE (X.suite a ((a, oe) :: pn)) (.Call (.Name h q1) [.Name n q2] [] q3) (fun σ H Q => σ[i]? = some (some (.ref a)) ∧ H dd = some (.xd [(fld, .str w)]) ∧ ∀ pl l, H pl = none → H l = none → l ≠ pl → Q (.ref l) (upd (upd H pl (.lst (ts.map .str))) l (.tup (ts.map .str)))) := by
    refine ⟨fun pins s σ H Q I q => ?_⟩
    obtain ⟨z1, z2, z3⟩ := q
    refine wpAny_Call_Name_kw (ld_glob I (by show X.env.scope.names.lookup _ = _; rw [hX.sc]; exact hg) (by show X.mg h = _; rw [hX.mg]; exact hm) ?_ hdh)
    have hA : PA (X.suite a ((a, oe) :: pn)) [.Name n q2] (tCons (tVar i) tNil) := pa_cons (pe_var (by show X.N[i]? = _; rw [hX.N]; exact hi) (by show Vis X.env.scope n; rw [hX.sc]; exact .inl hln) hd hcd) pa_nil
    refine PySem.W.callWith_K (h₀ := X.base) I.ok.mod.kin (by rw [hY]; exact hkp) (thn (hA.run q3 pins s σ H (fun xs H1 => xs = [V.ref a] ∧ H1 = H) I ⟨_, z1, rfl, rfl⟩) fun us s1 ⟨xs, H1, I1, r, ex, eH⟩ => ⟨I1.kIn, ?_⟩)
    subst ex eH
    obtain ⟨u, rfl, ru⟩ := r.one
    have eu : u = .ref a := ru
    subst eu
    have P1 := I1.pin (a, oe) (List.mem_append_left _ List.mem_cons_self)
    have hpin : L2H.PinOk (X.suite a ((a, oe) :: pn)).stack H1 s1 (a, oe) := ⟨P1.1, P1.2.1, fun hm => (List.mem_cons.mp (I1.stkSub a hm)).elim P1.2.2.1 P1.2.2.2.1, P1.2.2.2.2⟩
    have b := hb s1 [.ref a] (by rw [← hY]; exact I1.kIn) rfl
    have E1 : Env0 g.P g.w g.K g.mg g.base (X.suite a ((a, oe) :: pn)).A X.stack s1 H1 := by
      have := I1.env0
      rw [← hX.P, ← hX.w, ← hX.K, ← hX.mg, ← hX.base]
      exact this
    have R := run (X.suite a ((a, oe) :: pn)).A X.stack s1 H1 Q (a, oe) dd ⟨hX.room.dp, hX.room.un⟩ ⟨rfl, vs, hv, hz.2.2 vs hv⟩ hpin E1 b ⟨hE, hz.zc, ⟨vs, hv⟩⟩ z2 z3
    rw [← hX.P, ← hX.w] at R
    refine wpAny_call (codeAny_mono R fun r s' hq => ?_)
    cases r with
    | error e => exact hq.elim
    | ok fl =>
      cases fl with
      | ret u => exact I1.after hq
      | next => exact False.elim hq
      | brk => exact False.elim hq
      | cont => exact False.elim hq
  exact (pss_one (ps_ret pe)).run pins s _ H D I ⟨hσ, hxd, q⟩
end

theorem rs_str {I : Hp} : ∀ ts : List Str, Reps I (ts.map .str) (ts.map .str)
  | [] => .nil
  | t :: ts => .cons (.str t) (rs_str ts)
theorem FN.mkTry {g : Pg} {x cx h n : Str} {st : Stmt} {ret : Stmt} {N ps : List Str} {k i : Nat} {R : Rel} {Cb : Addr} {np pos pos' q1 q2 q3 q4 : Pos} (T : TxtF g x st) (S : FnScope N ps (defScope st))
    (hb : ∀ (kV doc pm : Value) (an : Option Addr) (cdv ct : Value) (us : List Value), us.length = ps.length → bindArgs (PySem.W.fnOf x x (defArgs st) (defBody st) (defScope st) .none kV doc pm an cdv ct) ⟨us, []⟩ = pure (ps.zip us))
    (hl : ∀ os M o M', R os M o M' → os.length = ps.length) (htxt : defBody st = [.Try [ret] [.ExceptHandler (some (.Name cx np)) (some n) [.Return (some (.Call (.Name h q1) [.Name n q2] [] q3)) q4] pos'] [] [] pos])
    (hcx : g.mg cx = some (.ref Cb)) (hi : N[i]? = some n)
    (body : ∀ os M o M', R os M o M' → ∃ r : OutX, SX (Ab.mkC g N st k) [ret] (pad N os) M r ∧ (r = .ok (.rt o M') ∨ ∃ (Ca : Addr) (fld w : Str) (ts : List Str), r = .xc Ca fld w M' ∧ o = .dat (.tup (ts.map .str)) ∧ FR g h k Ca fld w ts ∧ ExcC g.K Ca ∧ PySem.W.exmOne g.K (.ref Ca) (.ref Cb) = some true))
    (hgx : (defScope st).names.lookup cx = some .globalImplicit := by rfl) (hln : (defScope st).names.lookup n = some .local := by rfl) (hg : (defScope st).names.lookup h = some .globalImplicit := by rfl) (hdx : (cx == ("__debug__" : Str)) = false := by decide) (hdh : (h == ("__debug__" : Str)) = false := by decide) (hd : (n == ("__debug__" : Str)) = false := by decide) (hcd : (n == ("__classdict__" : Str)) = false := by decide) :
    FN g x (k + 1) R := by
  obtain ⟨f, fd, F, hm⟩ := T.fn
  refine ⟨f, fd, ps, ?_, hm, F.kp, F.binds hb⟩
  obtain ⟨oc, od, kV, doc, pm, an, cdv, ct, osl, rfl, lk, hcd'⟩ := F.ex
  refine fn_of lk hcd' S (fun vs H Q E h => ?_) fun A outer s H vs Q E hr h => ?_
  · obtain ⟨I, adr, os, M, o, M', h1, _, _, v, _⟩ := h
    rw [← v.length]
    exact hl _ _ _ _ h1
  · obtain ⟨I, adr, os, M, o, M', h1, ex, sto, v, q⟩ := h
    have cx0 : CxIs (Ab.mkC g N st k) (cxOf CX0 g.P g.w g.K g.mg g.base N x (defScope st) f cdv A outer s H E) := ⟨rfl, rfl, rfl, rfl, rfl, rfl, rfl, rfl, hr, L2.passes_of rfl, takes0, fun _ _ => rfl, fun _ _ z => (by cases z), ⟨_, _, rfl, S.gen, S.co, rfl, rfl⟩⟩
    have cxt : ∀ (pn : List (Addr × Obj)) (xe : Value → Shared → Prop), PassesOwn (model g.P g.w) (A.deeper (envOfC x (defScope st) s.heap.objs.size f cdv)) (envOfC x (defScope st) s.heap.objs.size f cdv) xe → CxIs (Ab.mkC g N st k) ((cxOf CX0 g.P g.w g.K g.mg g.base N x (defScope st) f cdv A outer s H E).tr pn xe) :=
      fun pn xe po => ⟨rfl, rfl, rfl, rfl, rfl, rfl, rfl, rfl, hr, po, takes0, fun _ _ => rfl, fun _ _ z => (by cases z), ⟨_, _, rfl, S.gen, S.co, rfl, rfl⟩⟩
    rw [htxt]
    have P := L2N.ps_try_as (X := cxOf CX0 g.P g.w g.K g.mg g.base N x (defScope st) f cdv A outer s H E) (x := cx) (n := n) (c := .ref Cb) (i := i) (np := np) (pos := pos) (pos' := pos') (body := [ret]) (b₀ := .Return (some (.Call (.Name h q1) [.Name n q2] [] q3)) q4) (suite := [])
      (tb := fun W => UX (Ab.mkC g N st k) W [ret]) (ts := tSuite g h k i) (Wout := W0) rfl rfl S.nd hi hln ⟨hgx, hdx, .inl hcx⟩ (fun u s' z => by
        obtain ⟨_, _, _, _, _, _, _, _, _, _, _, _, _, _, _, _, z⟩ := z
        exact z.elim)
      (fun W pn xe tk po => ux (cxt pn xe po) tk [ret]) (fun a oe cls d pn hz hf => suite_ok cx0 hi hln hg hdh hd hcd a oe cls d pn hz hf)
    refine ⟨_, pss_one P, ?_⟩
    obtain ⟨r, hs, hr'⟩ := body os M o M' h1
    refine hs _ I H adr _ _ (stt_pad ex sto v) ?_
    rcases hr' with rfl | ⟨Ca, fld, w, ts, rfl, rfl, hF, hE, hx⟩
    · exact fun w I' H' adr' s' g' v' => q w I' H' adr' s'.ex s'.sto g' v'
    · refine fun d I' H' adr' σ' e s' g' z => ⟨true, hx, fun _ a ha => ⟨Ca, d, fld, w, ts, rfl, rfl, hF, hE, ⟨σ', rfl⟩, z, fun pl l h1 h2 h3 => ?_⟩, fun z => nomatch z⟩
      have s0 : Stt I' H' adr' [] [] M' := ⟨e, s', rfl, fun i o ov h _ => by simp at h⟩
      obtain ⟨s2, g2, r2⟩ := s0.lst (ds := ts.map .str) h1 (rs_str ts)
      obtain ⟨s3, g3, r3⟩ := s2.tup (ds := ts.map .str) (show upd H' pl _ l = none by rw [upd_ne h3]; exact h2) (rs_str ts)
      exact q _ _ _ _ s3.ex s3.sto ((g'.trans g2).trans g3) r3
end Ab
/-! Ab: zip over a list or a tuple and a list or a tuple. -/
namespace Ab
open PySem PySem.Spec PyProof.Rows L2
variable [TabCtx]


/-- a tuple (true) or a list -/
def SqK (k : Bool) (K : PySem.W.Frag) (H : Hp) (a : Addr) (xs : List V) : Prop := match k with
  | true => SqT K H a xs
  | false => SqL K H a xs
def InK (k : Bool) (h : Heap) (a : Addr) (its : List Value) : Prop := match k with
  | true => h.IsTuple a its.toArray
  | false => h.IsList a its.toArray
def ItK (k : Bool) (h : Heap) (it a : Addr) (i : Nat) : Prop := match k with
  | true => h.IsTupleIter it a i
  | false => h.IsListIter it a i
def obK (k : Bool) (a : Addr) : Obj := match k with
  | true => { cls := .type "tuple_iterator", data := .fields #[.ref a, .int 0 0] }
  | false => { cls := .type "list_iterator", data := .fields #[.ref a, .int 0 0] }
section
variable {X : Cx} {pins : List (Addr × Obj)} {σ : L2.St} {H : Hp} {s : Shared} {a : Addr} {xs ys : List V}
theorem SqK.at_ {k : Bool} (I : Inv X pins σ H s) (h : SqK k X.K H a xs) : ∃ its : List Value, Vals xs its ∧ InK k s.heap a its := by
  cases k with
  | true =>
    obtain ⟨its, rv, p, _⟩ := I.tuple h
    exact ⟨its, rv, p⟩
  | false =>
    obtain ⟨its, rv, p, _⟩ := I.list h
    exact ⟨its, rv, p.isList⟩
theorem SqK.inj {k : Bool} (I : Inv X pins σ H s) (h : SqK k X.K H a xs) (h' : SqK k X.K H a ys) : xs = ys := by
  cases k with
  | true => exact I.tuple_inj h h'
  | false => exact I.list_inj h h'
end
theorem InK.lt {k : Bool} {h : Heap} {a : Addr} {its : List Value} (p : InK k h a its) : a < h.objs.size := by
  cases k with
  | true => exact let ⟨_, e, _⟩ := (show h.IsTuple a its.toArray from p); Heap.lt_size e
  | false => exact let ⟨_, e, _⟩ := (show h.IsList a its.toArray from p); Heap.lt_size e
theorem ItK.ob {k : Bool} {h : Heap} {it a : Addr} {i : Nat} (p : ItK k h it a i) : ∃ o, h.get? it = some o ∧ ∀ v, o.data ≠ .cell v := by
  cases k with
  | true =>
    obtain ⟨o, e, _, d⟩ := (show h.IsTupleIter it a i from p)
    exact ⟨o, e, fun v q => by rw [d] at q; cases q⟩
  | false =>
    obtain ⟨o, e, _, d⟩ := (show h.IsListIter it a i from p)
    exact ⟨o, e, fun v q => by rw [d] at q; cases q⟩
theorem ItK.mv {k : Bool} {h h' : Heap} {it a : Addr} {i : Nat} (p : ItK k h it a i) (q : ∀ o, h.get? it = some o → h'.get? it = some o) : ItK k h' it a i := by
  cases k with
  | true => exact (show h.IsTupleIter it a i from p).at q
  | false => exact (show h.IsListIter it a i from p).at q
theorem ItK.new {k : Bool} {h : Heap} {it a : Addr} (p : h.get? it = some (obK k a)) : ItK k h it a 0 := by
  cases k with
  | true => exact ⟨_, p, rfl, rfl⟩
  | false => exact ⟨_, p, rfl, rfl⟩
theorem drawsK {prog : Program} {w : World} {A : Around} (k : Bool) (hh : A.handled = none) (it a : Addr) (ne : a ≠ it) (its : List Value) :
    Draws prog w A it [it, a] its.length (fun i v => its[i]? = some v) (fun i h => ItK k h it a i ∧ InK k h a its) := by
  cases k with
  | true =>
    have D := Draws.tuple (prog := prog) (w := w) hh it a ne its.toArray
    simp only [List.getElem?_toArray, List.size_toArray] at D
    exact D
  | false =>
    have D := Draws.list (prog := prog) (w := w) hh it a ne its.toArray
    simp only [List.getElem?_toArray, List.size_toArray] at D
    exact D
theorem beginsK (k : Bool) (a : Addr) (its : List Value) : Begins (.ref a) (obK k a) fun h => InK k h a its := by
  cases k with
  | true => exact begins_tuple a its.toArray
  | false => exact begins_list a its.toArray
/-- the turns -/
def ItzM (k1 k2 : Bool) (K : PySem.W.Frag) (a b : Addr) : It :=
  ⟨fun i H => ∃ (xs ys : List V) (x y : V), SqK k1 K H a xs ∧ SqK k2 K H b ys ∧ xs[i]? = some x ∧ ys[i]? = some y,
    fun i H v H' => ∃ T x y, v = .ref T ∧ H T = none ∧ H' = upd H T (.tup [x, y]) ∧ (∀ xs, SqK k1 K H a xs → xs[i]? = some x) ∧ ∀ ys, SqK k2 K H b ys → ys[i]? = some y,
    fun i H => ∃ xs ys : List V, SqK k1 K H a xs ∧ SqK k2 K H b ys ∧ i ≤ xs.length ∧ i ≤ ys.length ∧ (xs.length = i ∨ ys.length = i)⟩
/-- where the objects of such a zip lie -/
structure MSep (z TI TO i1 i2 a b : Addr) : Prop where
  sep : ZipSep2 z TI TO i1 i2 [i1, a] [i2, b]
  a1 : a ≠ i1
  b2 : b ≠ i2
def zipAt (k1 k2 : Bool) (z TI TO i1 i2 a b : Addr) (i : Nat) (h : Heap) : Prop := IsZip h z TI TO .none ∧ IsTupOf2 h TI (.ref i1) (.ref i2) ∧ (∃ x y, IsTupOf2 h TO x y) ∧ ItK k1 h i1 a i ∧ ItK k2 h i2 b i
theorem five {α : Prop} {c z TI TO i1 i2 : Addr} (h : c ∈ [z, TI, TO, i1, i2]) (q1 : c = z → α) (q2 : c = TI → α) (q3 : c = TO → α) (q4 : c = i1 → α) (q5 : c = i2 → α) : α := by
  have e : c = z ∨ c = TI ∨ c = TO ∨ c = i1 ∨ c = i2 := by simpa using h
  rcases e with e | e | e | e | e
  · exact q1 e
  · exact q2 e
  · exact q3 e
  · exact q4 e
  · exact q5 e
theorem turn_zipM {P : Program} {w : World} {K : PySem.W.Frag} {elts : List Expr} {kk : Nat} {tpos : Pos} {k1 k2 : Bool} {a b z TI TO i1 i2 : Addr} (S : MSep z TI TO i1 i2 a b) :
    Turn P w K (.Tuple elts kk tpos) (ItzM k1 k2 K a b) [z, TI, TO, i1, i2] z (zipAt k1 k2 z TI TO i1 i2 a b) where
  mem := List.mem_cons_self
  obj := fun i h st c hc => by
    obtain ⟨hz, hI, ⟨x, y, hO⟩, h1, h2⟩ := st
    refine five hc (fun q => ?_) (fun q => ?_) (fun q => ?_) (fun q => ?_) (fun q => ?_)
    · exact q ▸ ⟨_, hz, fun v q => nomatch q⟩
    · exact q ▸ ⟨_, hI, fun v q => nomatch q⟩
    · exact q ▸ ⟨_, hO, fun v q => nomatch q⟩
    · exact q ▸ h1.ob
    · exact q ▸ h2.ob
  keep := fun i h h' st k => by
    obtain ⟨hz, hI, ⟨x, y, hO⟩, h1, h2⟩ := st
    exact ⟨k z (by simp) _ hz, k TI (by simp) _ hI, ⟨x, y, k TO (by simp) _ hO⟩, h1.mv fun o q => k i1 (by simp) o q, h2.mv fun o q => k i2 (by simp) o q⟩
  item := by
    intro X hP hw hK hc i pins s σ H E I hf st hg
    subst hP hw hK
    obtain ⟨hz, hI, ⟨x0, y0, hO⟩, h1, h2⟩ := st
    obtain ⟨xs, ys, x, y, qx, qy, hx, hy⟩ := hg
    obtain ⟨its, rv, pt⟩ := qx.at_ I
    obtain ⟨its2, rv2, pl⟩ := qy.at_ I
    obtain ⟨u, hu, ru⟩ := rv.get hx
    obtain ⟨u2, hu2, ru2⟩ := rv2.get hy
    have zl : z < s.heap.objs.size := Heap.lt_size hz
    have n1 : i < its.length := (List.getElem?_eq_some_iff.mp hu).1
    have n2 : i < its2.length := (List.getElem?_eq_some_iff.mp hu2).1
    have D1 := drawsK (prog := X.prog) (w := X.w) (A := X.A.in1) k1 (I.ok.hd hc) i1 a S.a1 its
    have D2 := drawsK (prog := X.prog) (w := X.w) (A := X.A.in1) k2 (I.ok.hd hc) i2 b S.b2 its2
    refine wpAny_pyNext_zipD2_item S.sep D1 D2 hz hI hO ⟨h1, pt⟩ ⟨h2, pl⟩ n1 n2 fun x1 x2 h' tk y1 y2 z' hO' d1 d2 hT hsz hk => ?_
    have e1 : x1 = u := by
      have q : its[i]? = some x1 := y1
      rw [hu] at q
      exact (Option.some.inj q).symm
    have e2 : x2 = u2 := by
      have q : its2[i]? = some x2 := y2
      rw [hu2] at q
      exact (Option.some.inj q).symm
    subst e1 e2
    refine ⟨_, rfl, wpAny_letOwnedTupleGo_zip (s := { s with heap := h', toks := tk }) z' fun h'' z'' sb => ?_⟩
    have up : ∀ {c : Addr} {o : Obj}, c ≠ z → h'.get? c = some o → h''.get? c = some o := fun {c o} n q => (sb.2 c n).trans q
    have T2 : h''.get? s.heap.objs.size = some { cls := .type "tuple", data := .seq #[x1, x2] } := up (Nat.ne_of_gt zl) hT
    have new : ObjOk X.prog X.w (upd H s.heap.objs.size (.tup [x, y])) h'' s.heap.objs.size (.tup [x, y]) := ⟨by show 2 ≤ sizeLine; decide, [x1, x2], .cons ru (.cons ru2 .nil), ⟨_, T2, rfl, _, rfl⟩⟩
    have J : Inv X pins σ (upd H s.heap.objs.size (.tup [x, y])) { s with heap := h'', toks := tk } :=
      I.turnedNew (t' := tk) (ch := [z, TI, TO, i1, i2]) (fun c o hb q => up (fun q' => hb (by simp [q'])) (hk c o (fun q' => hb (by simp [q'])) (fun q' => hb (by simp [q'])) (fun q' => hb (by simp [q'])) (fun q' => hb (by simp [q'])) q)) hf (Nat.le_refl _) new
    refine ⟨.ref s.heap.objs.size, _, J, rfl, ⟨_, x, y, rfl, I.hok.fresh (Nat.le_refl _), rfl, fun l hl => by rw [SqK.inj I hl qx]; exact hx, fun l hl => by rw [SqK.inj I hl qy]; exact hy⟩, ⟨z'', up S.sep.TIz (hk _ _ S.sep.TIz S.sep.TITO S.sep.TIi1 S.sep.TIi2 hI), ⟨x1, x2, up S.sep.TOz hO'⟩, d1.1.mv fun o q => up S.sep.zi1.symm q, d2.1.mv fun o q => up S.sep.zi2.symm q⟩, fun c hcm => ?_⟩
    have lt : c < s.heap.objs.size := five hcm (fun q => q ▸ zl) (fun q => q ▸ Heap.lt_size hI) (fun q => q ▸ Heap.lt_size hO) (fun q => q ▸ (let ⟨_, e, _⟩ := h1.ob; Heap.lt_size e)) (fun q => q ▸ (let ⟨_, e, _⟩ := h2.ob; Heap.lt_size e))
    rw [upd_ne (Nat.ne_of_lt lt)]
    exact (hf c hcm).1
  done := by
    intro X hP hw hK hc i pins s σ H E I hf st hg
    subst hP hw hK
    obtain ⟨hz, hI, ⟨x0, y0, hO⟩, h1, h2⟩ := st
    obtain ⟨xs, ys, qx, qy, l1, l2, he⟩ := hg
    obtain ⟨its, rv, pt⟩ := qx.at_ I
    obtain ⟨its2, rv2, pl⟩ := qy.at_ I
    have m1 := rv.length
    have m2 := rv2.length
    have D1 := drawsK (prog := X.prog) (w := X.w) (A := X.A.in1) k1 (I.ok.hd hc) i1 a S.a1 its
    have D2 := drawsK (prog := X.prog) (w := X.w) (A := X.A.in1) k2 (I.ok.hd hc) i2 b S.b2 its2
    exact wpAny_pyNext_zipD2_end S.sep D1 D2 hz hI hO ⟨h1, pt⟩ ⟨h2, pl⟩ (by omega) (by omega) (by omega) fun h' tk hk => ⟨rfl, I.turnedL (t' := tk) (ch := [z, TI, TO, i1, i2]) (fun c o hb q =>
      hk c o (fun q' => hb (by simp [q'])) (fun q' => hb (by simp [q'])) (fun q' => hb (by simp [q'])) (fun q' => hb (by simp [q'])) q) hf⟩
  self := fun A i s Q E st h => wpAny_pyIter_zip st.1 h
theorem nmem2 {x p q : Addr} (h1 : x ≠ p) (h2 : x ≠ q) : x ∉ [p, q] := fun h => by
  rcases List.mem_cons.mp h with e | h
  · exact h1 e
  · exact h2 (List.mem_singleton.mp h)
theorem addr_ne {x y : Nat} (h : x ≠ y) : (show Addr from x) ≠ (show Addr from y) := h
theorem msep_at (n a b : Nat) (h1 : a < n) (h2 : b < n) : MSep (n + 4) (n + 2) (n + 3) n (n + 1) a b :=
  ⟨⟨addr_ne (by omega), addr_ne (by omega), addr_ne (by omega), addr_ne (by omega), List.mem_cons_self, nmem2 (addr_ne (by omega)) (addr_ne (by omega)), nmem2 (addr_ne (by omega)) (addr_ne (by omega)), addr_ne (by omega), List.mem_cons_self, nmem2 (addr_ne (by omega)) (addr_ne (by omega)), nmem2 (addr_ne (by omega)) (addr_ne (by omega)), nmem2 (addr_ne (by omega)) (addr_ne (by omega)), nmem2 (addr_ne (by omega)) (addr_ne (by omega))⟩, addr_ne (by omega), addr_ne (by omega)⟩
def iZipM (k1 k2 : Bool) (K : PySem.W.Frag) (ta : TA) : TI := fun σ H R => ta σ H fun vs H1 => ∃ a b xs ys, vs = [.ref a, .ref b] ∧ SqK k1 K H1 a xs ∧ SqK k2 K H1 b ys ∧ R (ItzM k1 k2 K a b) H1
theorem pi_zipM {k1 k2 : Bool} {X : Cx} {e e2 : Expr} {ta : TA} {p pos tpos : Pos} {elts : List Expr} {kk : Nat} (hg : Gl X "zip") (hm : X.mg "zip" = none) (ha : PA X [e, e2] ta)
    (hs : starEach [e, e2] X.env = (false, eval e X.env) :: starEach [e2] X.env := by rfl) (hpl : (backTo pos (starEach [e2] X.env)).any (·.1) = false := by rfl) :
    PI X (.Tuple elts kk tpos) (.Call (.Name "zip" p) [e, e2] [] pos) (iZipM k1 k2 X.K ta) := by
  refine ⟨fun pins s σ H R I h => Call_ (ld_blt I hg hm PyProof.Rows.boot_zip (PyProof.Rows.callWith_type1 (thn (ha.run pos pins s σ H _ I h) fun us s1 ⟨vs, H1, J, r1, q1⟩ => ?_) hs hpl))⟩
  obtain ⟨a, b, xs, ys, ex, qx, qy, q⟩ := q1
  subst ex
  obtain ⟨u1, us1, rfl, r2, r3⟩ : ∃ u1 us1, us = u1 :: us1 ∧ u1 = .ref a ∧ Vals [.ref b] us1 := by
    cases r1 with
    | cons h1 h2 => exact ⟨_, _, rfl, h1, h2⟩
  obtain ⟨u2, rfl, r4⟩ := r3.one
  have r4' : u2 = .ref b := r4
  subst r2 r4'
  obtain ⟨its, rv, pt⟩ := qx.at_ J
  obtain ⟨its2, rv2, pl⟩ := qy.at_ J
  have la : a < s1.heap.objs.size := pt.lt
  have lb : b < s1.heap.objs.size := pl.lt
  refine zip_begins2 (beginsK k1 a its) (beginsK k2 b its2) pt pl fun h' hz hI hO o1 o2 hsz hk => wpAny_pyIter_zip hz ?_
  have J2 : Inv X pins σ H1 { s1 with heap := h' } := J.kept (t' := s1.toks) hk
  refine ⟨s1.heap.objs.size + 4, [s1.heap.objs.size + 4, s1.heap.objs.size + 2, s1.heap.objs.size + 3, s1.heap.objs.size, s1.heap.objs.size + 1], _, _, H1, rfl, J2, turn_zipM (msep_at s1.heap.objs.size a b la lb), ⟨hz, hI, ⟨_, _, hO⟩, ItK.new o1, ItK.new o2⟩, fun c hcm => ?_, q⟩
  have le : s1.heap.objs.size ≤ c := five hcm (fun q => q ▸ Nat.le_add_right _ _) (fun q => q ▸ Nat.le_add_right _ _) (fun q => q ▸ Nat.le_add_right _ _) (fun q => Nat.le_of_eq q.symm) (fun q => q ▸ Nat.le_add_right _ _)
  exact J.fpOk le (J.hok.fresh le)
section
variable {C : Cc} {E : List O} {M M1 M2 : Mem} {a b : Expr} {pos p : Pos} {d1 d2 : D}
def seqK (k : Bool) (ds : List D) : D := match k with
  | true => .tup ds
  | false => .lst ds
theorem repK {k : Bool} {I : Hp} {ds : List D} {v : V} (h : Rep I (seqK k ds) v) : ∃ (p : Addr) (xs : List V), v = .ref p ∧ Reps I ds xs ∧ ∀ (K : PySem.W.Frag) (I' H' : Hp), Ex I I' → Ex I' H' → SqK k K H' p xs := by
  cases k with
  | true =>
    cases (show Rep I (.tup ds) v from h) with
    | @tup p xs _ hp hr => exact ⟨p, xs, rfl, hr, fun K I' H' e1 e2 => sqt_uniq (e2 _ _ (e1 _ _ hp))⟩
  | false =>
    cases (show Rep I (.lst ds) v from h) with
    | @lst p xs _ hp hr => exact ⟨p, xs, rfl, hr, fun K I' H' e1 e2 => sql_uniq (e2 _ _ (e1 _ _ hp))⟩
theorem EI.zipM (k1 k2 : Bool) {ds es : List D} {x : Str} {elts : List Expr} {kk : Nat} {tp : Pos} (h1 : EV C a E M (.dat (seqK k1 ds)) M1) (h2 : EV C b E M1 (.dat (seqK k2 es)) M2) (hl : ds.length = es.length) (hm : Bt C.g "zip") (hx : x = "zip" := by rfl) (hg : C.sc.names.lookup x = some .globalImplicit := by rfl)
    (hs : ∀ env, starEach [a, b] env = (false, eval a env) :: starEach [b] env := by intro _; rfl) (hs2 : ∀ env, starEach [b] env = (false, eval b env) :: starEach [] env := by intro _; rfl) (hpl : ∀ env, (backTo pos (starEach [b] env)).any (·.1) = false := by intro _; rfl) :
    EI C (.Tuple elts kk tp) (.Call (.Name x p) [a, b] [] pos) E M ds.length (atZ ds es) M2 tt := fun I H adr σ R s q => by
  subst hx
  refine ⟨iZipM k1 k2 C.g.K (tCons (UE C a) (tCons (UE C b) tNil)), fun X hX => by
    have := pi_zipM (k1 := k1) (k2 := k2) (tpos := tp) (elts := elts) (kk := kk) (p := p) (pos := pos) (X := X) (by show X.env.scope.names.lookup _ = _; rw [hX.sc]; exact hg) (by rw [hX.mg]; exact hm) (pa_cons (ue hX a) (pa_cons (ue hX b) pa_nil (hs2 X.env)) (hs X.env)) (hs X.env) (hpl X.env)
    rw [hX.K] at this
    exact this, ?_⟩
  refine h1 I H adr σ _ s fun v I1 H1 adr1 s1 g1 v1 => h2 I1 H1 adr1 σ _ s1 fun w I2 H2 adr2 s2 g2 w2 => ?_
  obtain ⟨p1, xs, rfl, hr, q1⟩ := repK (show Rep I2 (seqK k1 ds) v from v1.mono g2)
  obtain ⟨p2, ys, rfl, hr', q2⟩ := repK (show Rep I2 (seqK k2 es) w from w2)
  refine ⟨p1, p2, xs, ys, rfl, q1 _ I2 _ (Ex.refl _) s2.ex, q2 _ I2 _ (Ex.refl _) s2.ex, q _ I2 H2 adr2 s2 (g1.trans g2) fun I3 H3 adr3 σ3 E3 M3 s3 g3 _ => ?_⟩
  have a1 := q1 C.g.K I3 H3 g3.ex s3.ex
  have a2 := q2 C.g.K I3 H3 g3.ex s3.ex
  have l1 := hr.length
  have l2 := hr'.length
  refine ⟨⟨xs, ys, a1, a2, by omega, by omega, by omega⟩, fun n hn => ?_⟩
  have b1 : xs[n]? = some (xs[n]'(by omega)) := List.getElem?_eq_getElem _
  have b2 : ys[n]? = some (ys[n]'(by omega)) := List.getElem?_eq_getElem _
  refine ⟨⟨xs, ys, _, _, a1, a2, b1, b2⟩, fun z H4 hz => ?_⟩
  obtain ⟨T, x, y, rfl, hT, rfl, f1, f2⟩ := hz
  obtain ⟨x', ex, rx⟩ := hr.get (atO_get hn)
  obtain ⟨y', ey, ry⟩ := hr'.get (atO_get (show n < es.length by omega))
  have e1 : x' = x := Option.some.inj (ex.symm.trans (f1 _ a1))
  have e2 : y' = y := Option.some.inj (ey.symm.trans (f2 _ a2))
  subst e1 e2
  obtain ⟨s4, g4, r4⟩ := s3.tup hT (.cons (rx.mono g3.ex) (.cons (ry.mono g3.ex) .nil))
  exact ⟨_, s4, g4, r4⟩
end
section
variable {C : Cc} {E : List O} {M M1 M2 : Mem} {elt a b : Expr} {p : Pos} {x : Str} {scope : Scope} {own : List (Str × Nat)} {d1 d2 : D}
theorem LC.lZM (k1 k2 : Bool) {α β : Type} (jx jy : Nat) {y z : Str} {q qs q1 q2 : Pos} {kk : Nat} {xs : List α} {ys : List β} {f1 : α → D} {f2 : β → D} {g : α → β → D} (ok : blkC C.N C.sc scope own = true) (nd : C.N.Nodup) (ho : own.map (·.2) = [jx, jy])
    (h1 : EV C a E M (.dat (seqK k1 (xs.map f1))) M1) (h2 : EV C b E M1 (.dat (seqK k2 (ys.map f2))) M2) (hxy : xs.length = ys.length) (hm : Bt C.g "zip") (hl : M.length ≤ M2.length) (hok : OkM M M2) (hz : xs.length < 100000)
    (step : ∀ u ∈ xs, ∀ v ∈ ys, ∀ M, EV (C.blk scope) elt (((wipeE E [jx, jy]).set jx (.dat (f1 u))).set jy (.dat (f2 v))) M (.dat (g u v)) M)
    (hy : z = "zip" := by rfl) (hg : C.sc.names.lookup z = some .globalImplicit := by rfl) (hs : ∀ env, starEach [a, b] env = (false, eval a env) :: starEach [b] env := by intro _; rfl) (hs2 : ∀ env, starEach [b] env = (false, eval b env) :: starEach [] env := by intro _; rfl) (hpl : ∀ env, (backTo qs (starEach [b] env)).any (·.1) = false := by intro _; rfl)
    (hi : C.N[jx]? = some x := by rfl) (hi' : C.N[jy]? = some y := by rfl) (hx : Loc (C.blk scope).sc x := by first | exact Or.inl rfl | exact Or.inr rfl) (hx' : Loc (C.blk scope).sc y := by first | exact Or.inl rfl | exact Or.inr rfl)
    (hf' : (C.blk scope).fn x = true ∨ (C.blk scope).sc.names.lookup x = some .local := by first | exact .inl rfl | exact .inr rfl) (hf'' : (C.blk scope).fn y = true ∨ (C.blk scope).sc.names.lookup y = some .local := by first | exact .inl rfl | exact .inr rfl)
    (hf : ∀ env x, foldedSetIterable (.Call (.Name z q) [a, b] [] qs) env x = pure x := by intro _ _; rfl) : LC C elt (.Tuple [.Name x q1, .Name y q2] kk p) (.Call (.Name z q) [a, b] [] qs) [] scope own E M (.dat (.lst ((xs.zip ys).map fun u => g u.1 u.2))) M2 := by
  have hlen : (xs.map f1).length = (xs.zip ys).length := by rw [List.length_map, List.length_zip]; omega
  have hle : (xs.zip ys).length ≤ xs.length := by rw [List.length_zip]; omega
  have key := LC.lPF (tg := .Tuple [.Name x q1, .Name y q2] kk p) (elt := elt) (ifs := []) (scope := scope) (own := own) (v := fun i => ((xs.zip ys).map fun u => g u.1 u.2).getD i .non) (f := fun _ => true) ok nd (EI.zipM k1 k2 (p := q) (pos := qs) (elts := [.Name x q1, .Name y q2]) (kk := kk) (tp := p) h1 h2 (by rw [List.length_map, List.length_map]; exact hxy) hm hy hg hs hs2 hpl) (fun _ => True.intro) (by omega) hl hok (fun i hlt => by
    rw [hlen] at hlt
    have l1 : i < xs.length := by rw [List.length_zip] at hlt; omega
    have l2 : i < ys.length := by rw [List.length_zip] at hlt; omega
    refine ⟨((wipeE E (own.map (·.2))).set jx (.dat (f1 xs[i]))).set jy (.dat (f2 ys[i])), fun M => ?_, fun M => EP.nil, fun _ M => ?_⟩
    · have ez : atZ (xs.map f1) (ys.map f2) i = .dat (.tup [f1 xs[i], f2 ys[i]]) := by
        unfold atZ
        rw [List.getD_eq_getElem?_getD, List.getD_eq_getElem?_getD, List.getElem?_map, List.getElem?_map, List.getElem?_eq_getElem l1, List.getElem?_eq_getElem l2]
        rfl
      rw [ez]
      exact EGv.tup (EGvs.cons (EGv.nm jx nd (by rw [ho]; simp) hi hx hf') (EGvs.cons (EGv.nm jy nd (by rw [ho]; simp) hi' hx' hf'') EGvs.nil))
    · have e : ((xs.zip ys).map fun u => g u.1 u.2).getD i .non = g xs[i] ys[i] := by
        rw [List.getD_eq_getElem?_getD, List.getElem?_map, List.getElem?_eq_getElem hlt, List.getElem_zip]
        rfl
      rw [e, ho]
      exact step _ (List.getElem_mem l1) _ (List.getElem_mem l2) M) hf
  have e2 : ((List.range ((xs.map f1).length)).filter fun _ => true).map (fun i => ((xs.zip ys).map fun u => g u.1 u.2).getD i D.non) = (xs.zip ys).map fun u => g u.1 u.2 := by
    rw [List.filter_eq_self.mpr (fun _ _ => rfl), hlen, ← List.length_map (fun u : α × β => g u.1 u.2)]
    exact range_getD _ _
  rw [e2] at key
  exact key

/-! ### methods of cells -/
end
end Ab
namespace Ab
open PySem PySem.Spec PyProof.Rows L2
def top (i : Nat) : Stmt := PySem.Challenge.pw_multipliedout_k30_members_and_remainders.main.body.getD i (.Pass ⟨0, 0, 0, 0⟩)
abbrev s_is_number : Stmt := top 15
abbrev n_is_number : List Str := ["value"]
theorem c_is_number : FnScope n_is_number ["value"] (defScope s_is_number) := ⟨rfl, rfl, rfl, by decide +kernel, rfl, by decide +kernel, by decide +kernel⟩
-- 0:value
abbrev s_is_from_to : Stmt := top 16
abbrev n_is_from_to : List Str := ["value", "least", "most"]
theorem c_is_from_to : FnScope n_is_from_to ["value", "least", "most"] (defScope s_is_from_to) := ⟨rfl, rfl, rfl, by decide +kernel, rfl, by decide +kernel, by decide +kernel⟩
-- 0:value 1:least 2:most
abbrev s_is_row : Stmt := top 17
abbrev n_is_row : List Str := ["value"]
theorem c_is_row : FnScope n_is_row ["value"] (defScope s_is_row) := ⟨rfl, rfl, rfl, by decide +kernel, rfl, by decide +kernel, by decide +kernel⟩
-- 0:value
abbrev s_is_vector : Stmt := top 18
abbrev n_is_vector : List Str := ["value", "one"]
theorem c_is_vector : FnScope n_is_vector ["value"] (defScope s_is_vector) := ⟨rfl, rfl, rfl, by decide +kernel, rfl, by decide +kernel, by decide +kernel⟩
-- 0:value 1:one
abbrev s_is_matrix : Stmt := top 19
abbrev n_is_matrix : List Str := ["value", "row"]
theorem c_is_matrix : FnScope n_is_matrix ["value"] (defScope s_is_matrix) := ⟨rfl, rfl, rfl, by decide +kernel, rfl, by decide +kernel, by decide +kernel⟩
-- 0:value 1:row
abbrev s_checked_vector : Stmt := top 20
abbrev n_checked_vector : List Str := ["v"]
theorem c_checked_vector : FnScope n_checked_vector ["v"] (defScope s_checked_vector) := ⟨rfl, rfl, rfl, by decide +kernel, rfl, by decide +kernel, by decide +kernel⟩
-- 0:v
abbrev s_checked_matrix : Stmt := top 21
abbrev n_checked_matrix : List Str := ["a", "row"]
theorem c_checked_matrix : FnScope n_checked_matrix ["a"] (defScope s_checked_matrix) := ⟨rfl, rfl, rfl, by decide +kernel, rfl, by decide +kernel, by decide +kernel⟩
-- 0:a 1:row
abbrev s_check_sizes : Stmt := top 22
abbrev n_check_sizes : List Str := ["fits"]
theorem c_check_sizes : FnScope n_check_sizes ["fits"] (defScope s_check_sizes) := ⟨rfl, rfl, rfl, by decide +kernel, rfl, by decide +kernel, by decide +kernel⟩
-- 0:fits
abbrev s_checked_pair : Stmt := top 23
abbrev n_checked_pair : List Str := ["a", "b", "one", "other"]
theorem c_checked_pair : FnScope n_checked_pair ["a", "b"] (defScope s_checked_pair) := ⟨rfl, rfl, rfl, by decide +kernel, rfl, by decide +kernel, by decide +kernel⟩
-- 0:a 1:b 2:one 3:other
abbrev s_checked_with : Stmt := top 24
abbrev n_checked_with : List Str := ["a", "v", "one", "other"]
theorem c_checked_with : FnScope n_checked_with ["a", "v"] (defScope s_checked_with) := ⟨rfl, rfl, rfl, by decide +kernel, rfl, by decide +kernel, by decide +kernel⟩
-- 0:a 1:v 2:one 3:other
abbrev s_flipped : Stmt := top 26
abbrev n_flipped : List Str := ["a", "at", "row"]
theorem c_flipped : FnScope n_flipped ["a"] (defScope s_flipped) := ⟨rfl, rfl, rfl, by decide +kernel, rfl, by decide +kernel, by decide +kernel⟩
-- 0:a 1:at 2:row
abbrev s_unit : Stmt := top 27
abbrev n_unit : List Str := ["n", "row", "at"]
theorem c_unit : FnScope n_unit ["n"] (defScope s_unit) := ⟨rfl, rfl, rfl, by decide +kernel, rfl, by decide +kernel, by decide +kernel⟩
-- 0:n 1:row 2:at
abbrev s_is_zero : Stmt := top 28
abbrev n_is_zero : List Str := ["v"]
theorem c_is_zero : FnScope n_is_zero ["v"] (defScope s_is_zero) := ⟨rfl, rfl, rfl, by decide +kernel, rfl, by decide +kernel, by decide +kernel⟩
-- 0:v
abbrev s_less_multiple : Stmt := top 29
abbrev n_less_multiple : List Str := ["v", "k", "w", "one", "other"]
theorem c_less_multiple : FnScope n_less_multiple ["v", "k", "w"] (defScope s_less_multiple) := ⟨rfl, rfl, rfl, by decide +kernel, rfl, by decide +kernel, by decide +kernel⟩
-- 0:v 1:k 2:w 3:one 4:other
abbrev s_lead : Stmt := top 30
abbrev n_lead : List Str := ["v", "at", "one"]
theorem c_lead : FnScope n_lead ["v"] (defScope s_lead) := ⟨rfl, rfl, rfl, by decide +kernel, rfl, by decide +kernel, by decide +kernel⟩
-- 0:v 1:at 2:one
abbrev s_clear_column : Stmt := top 33
abbrev n_clear_column : List Str := ["work", "top", "column", "below", "best", "at"]
theorem c_clear_column : FnScope n_clear_column ["work", "top", "column"] (defScope s_clear_column) := ⟨rfl, rfl, rfl, by decide +kernel, rfl, by decide +kernel, by decide +kernel⟩
-- 0:work 1:top 2:column 3:below 4:best 5:at
abbrev s_hermite_ways : Stmt := top 34
abbrev n_hermite_ways : List Str := ["a", "work", "top", "column", "pivot", "at"]
theorem c_hermite_ways : FnScope n_hermite_ways ["a"] (defScope s_hermite_ways) := ⟨rfl, rfl, rfl, by decide +kernel, rfl, by decide +kernel, by decide +kernel⟩
-- 0:a 1:work 2:top 3:column 4:pivot 5:at
abbrev s_form_of : Stmt := top 35
abbrev n_form_of : List Str := ["a"]
theorem c_form_of : FnScope n_form_of ["a"] (defScope s_form_of) := ⟨rfl, rfl, rfl, by decide +kernel, rfl, by decide +kernel, by decide +kernel⟩
-- 0:a
abbrev s_basis_of : Stmt := top 36
abbrev n_basis_of : List Str := ["a", "rows", "found", "row"]
theorem c_basis_of : FnScope n_basis_of ["a"] (defScope s_basis_of) := ⟨rfl, rfl, rfl, by decide +kernel, rfl, by decide +kernel, by decide +kernel⟩
-- 0:a 1:rows 2:found 3:row
abbrev s_pivots_of : Stmt := top 37
abbrev n_pivots_of : List Str := ["h", "row"]
theorem c_pivots_of : FnScope n_pivots_of ["h"] (defScope s_pivots_of) := ⟨rfl, rfl, rfl, by decide +kernel, rfl, by decide +kernel, by decide +kernel⟩
-- 0:h 1:row
abbrev s_basis : Stmt := top 38
abbrev n_basis : List Str := ["a"]
theorem c_basis : FnScope n_basis ["a"] (defScope s_basis) := ⟨rfl, rfl, rfl, by decide +kernel, rfl, by decide +kernel, by decide +kernel⟩
-- 0:a
abbrev s_pivots : Stmt := top 39
abbrev n_pivots : List Str := ["a"]
theorem c_pivots : FnScope n_pivots ["a"] (defScope s_pivots) := ⟨rfl, rfl, rfl, by decide +kernel, rfl, by decide +kernel, by decide +kernel⟩
-- 0:a
abbrev s_reduced_by : Stmt := top 41
abbrev n_reduced_by : List Str := ["basis", "v", "found", "row", "column"]
theorem c_reduced_by : FnScope n_reduced_by ["basis", "v"] (defScope s_reduced_by) := ⟨rfl, rfl, rfl, by decide +kernel, rfl, by decide +kernel, by decide +kernel⟩
-- 0:basis 1:v 2:found 3:row 4:column
abbrev s_has : Stmt := top 43
abbrev n_has : List Str := ["a", "v"]
theorem c_has : FnScope n_has ["a", "v"] (defScope s_has) := ⟨rfl, rfl, rfl, by decide +kernel, rfl, by decide +kernel, by decide +kernel⟩
-- 0:a 1:v
abbrev s_has_all : Stmt := top 44
abbrev n_has_all : List Str := ["a", "b", "basis", "row"]
theorem c_has_all : FnScope n_has_all ["a", "b"] (defScope s_has_all) := ⟨rfl, rfl, rfl, by decide +kernel, rfl, by decide +kernel, by decide +kernel⟩
-- 0:a 1:b 2:basis 3:row
abbrev s_is_member : Stmt := top 45
abbrev n_is_member : List Str := ["a", "v", "one", "row"]
theorem c_is_member : FnScope n_is_member ["a", "v"] (defScope s_is_member) := ⟨rfl, rfl, rfl, by decide +kernel, rfl, by decide +kernel, by decide +kernel⟩
-- 0:a 1:v 2:one 3:row
abbrev s_is_within : Stmt := top 46
abbrev n_is_within : List Str := ["a", "b", "one", "other"]
theorem c_is_within : FnScope n_is_within ["a", "b"] (defScope s_is_within) := ⟨rfl, rfl, rfl, by decide +kernel, rfl, by decide +kernel, by decide +kernel⟩
-- 0:a 1:b 2:one 3:other
abbrev s_same_lattice : Stmt := top 47
abbrev n_same_lattice : List Str := ["a", "b", "one", "other"]
theorem c_same_lattice : FnScope n_same_lattice ["a", "b"] (defScope s_same_lattice) := ⟨rfl, rfl, rfl, by decide +kernel, rfl, by decide +kernel, by decide +kernel⟩
-- 0:a 1:b 2:one 3:other
abbrev s_remainder : Stmt := top 48
abbrev n_remainder : List Str := ["a", "v", "one", "row"]
theorem c_remainder : FnScope n_remainder ["a", "v"] (defScope s_remainder) := ⟨rfl, rfl, rfl, by decide +kernel, rfl, by decide +kernel, by decide +kernel⟩
-- 0:a 1:v 2:one 3:row
abbrev s_in_basis : Stmt := top 49
abbrev n_in_basis : List Str := ["basis", "v", "found", "left", "row", "column"]
theorem c_in_basis : FnScope n_in_basis ["basis", "v"] (defScope s_in_basis) := ⟨rfl, rfl, rfl, by decide +kernel, rfl, by decide +kernel, by decide +kernel⟩
-- 0:basis 1:v 2:found 3:left 4:row 5:column
abbrev s_coordinates : Stmt := top 50
abbrev n_coordinates : List Str := ["a", "v", "one", "row"]
theorem c_coordinates : FnScope n_coordinates ["a", "v"] (defScope s_coordinates) := ⟨rfl, rfl, rfl, by decide +kernel, rfl, by decide +kernel, by decide +kernel⟩
-- 0:a 1:v 2:one 3:row
abbrev s_law_start : Stmt := top 52
abbrev n_law_start : List Str := ["script"]
theorem c_law_start : FnScope n_law_start ["script"] (defScope s_law_start) := ⟨rfl, rfl, rfl, by decide +kernel, rfl, by decide +kernel, by decide +kernel⟩
-- 0:script
abbrev s_law_draw : Stmt := top 53
abbrev n_law_draw : List Str := ["state", "many", "cells", "cell", "digit", "one", "two"]
theorem c_law_draw : FnScope n_law_draw ["state", "many"] (defScope s_law_draw) := ⟨rfl, rfl, rfl, by decide +kernel, rfl, by decide +kernel, by decide +kernel⟩
-- 0:state 1:many 2:cells 3:cell 4:digit 5:one 6:two
abbrev s_law_span : Stmt := top 54
abbrev n_law_span : List Str := ["state", "low", "high"]
theorem c_law_span : FnScope n_law_span ["state", "low", "high"] (defScope s_law_span) := ⟨rfl, rfl, rfl, by decide +kernel, rfl, by decide +kernel, by decide +kernel⟩
-- 0:state 1:low 2:high
abbrev s_law_number : Stmt := top 55
abbrev n_law_number : List Str := ["x"]
theorem c_law_number : FnScope n_law_number ["x"] (defScope s_law_number) := ⟨rfl, rfl, rfl, by decide +kernel, rfl, by decide +kernel, by decide +kernel⟩
-- 0:x
abbrev s_law_same : Stmt := top 56
abbrev n_law_same : List Str := ["told", "due", "k"]
theorem c_law_same : FnScope n_law_same ["told", "due"] (defScope s_law_same) := ⟨rfl, rfl, rfl, by decide +kernel, rfl, by decide +kernel, by decide +kernel⟩
-- 0:told 1:due 2:k
abbrev s_law_frozen : Stmt := top 57
abbrev n_law_frozen : List Str := ["rows", "row"]
theorem c_law_frozen : FnScope n_law_frozen ["rows"] (defScope s_law_frozen) := ⟨rfl, rfl, rfl, by decide +kernel, rfl, by decide +kernel, by decide +kernel⟩
-- 0:rows 1:row
abbrev s_law_given : Stmt := top 58
abbrev n_law_given : List Str := ["state", "rows", "way", "row"]
theorem c_law_given : FnScope n_law_given ["state", "rows"] (defScope s_law_given) := ⟨rfl, rfl, rfl, by decide +kernel, rfl, by decide +kernel, by decide +kernel⟩
-- 0:state 1:rows 2:way 3:row
abbrev s_law_kept : Stmt := top 59
abbrev n_law_kept : List Str := ["given", "rows", "row"]
theorem c_law_kept : FnScope n_law_kept ["given", "rows"] (defScope s_law_kept) := ⟨rfl, rfl, rfl, by decide +kernel, rfl, by decide +kernel, by decide +kernel⟩
-- 0:given 1:rows 2:row
abbrev s_law_refusal : Stmt := top 60
abbrev n_law_refusal : List Str := ["e", "told"]
theorem c_law_refusal : FnScope n_law_refusal ["e"] (defScope s_law_refusal) := ⟨rfl, rfl, rfl, by decide +kernel, rfl, by decide +kernel, by decide +kernel⟩
-- 0:e 1:told
abbrev s_law_dot : Stmt := top 61
abbrev n_law_dot : List Str := ["one", "other", "k"]
theorem c_law_dot : FnScope n_law_dot ["one", "other"] (defScope s_law_dot) := ⟨rfl, rfl, rfl, by decide +kernel, rfl, by decide +kernel, by decide +kernel⟩
-- 0:one 1:other 2:k
abbrev s_law_led : Stmt := top 62
abbrev n_law_led : List Str := ["x", "rows", "wide", "i", "k"]
theorem c_law_led : FnScope n_law_led ["x", "rows", "wide"] (defScope s_law_led) := ⟨rfl, rfl, rfl, by decide +kernel, rfl, by decide +kernel, by decide +kernel⟩
-- 0:x 1:rows 2:wide 3:i 4:k
abbrev s_law_first : Stmt := top 63
abbrev n_law_first : List Str := ["row", "k"]
theorem c_law_first : FnScope n_law_first ["row"] (defScope s_law_first) := ⟨rfl, rfl, rfl, by decide +kernel, rfl, by decide +kernel, by decide +kernel⟩
-- 0:row 1:k
abbrev s_law_tidied : Stmt := top 64
abbrev n_law_tidied : List Str := ["rows", "out", "k", "at", "j", "many", "row", "i"]
theorem c_law_tidied : FnScope n_law_tidied ["rows"] (defScope s_law_tidied) := ⟨rfl, rfl, rfl, by decide +kernel, rfl, by decide +kernel, by decide +kernel⟩
-- 0:rows 1:out 2:k 3:at 4:j 5:many 6:row 7:i
abbrev s_law_left : Stmt := top 65
abbrev n_law_left : List Str := ["rows", "v", "left", "taken", "row", "at", "many", "k"]
theorem c_law_left : FnScope n_law_left ["rows", "v"] (defScope s_law_left) := ⟨rfl, rfl, rfl, by decide +kernel, rfl, by decide +kernel, by decide +kernel⟩
-- 0:rows 1:v 2:left 3:taken 4:row 5:at 6:many 7:k
abbrev s_law_identity : Stmt := top 66
abbrev n_law_identity : List Str := ["many", "k", "j"]
theorem c_law_identity : FnScope n_law_identity ["many"] (defScope s_law_identity) := ⟨rfl, rfl, rfl, by decide +kernel, rfl, by decide +kernel, by decide +kernel⟩
-- 0:many 1:k 2:j
abbrev s_law_turned : Stmt := top 67
abbrev n_law_turned : List Str := ["state", "rows", "count", "limit", "out", "there", "back", "step", "i", "j", "many", "row", "new", "x", "k"]
theorem c_law_turned : FnScope n_law_turned ["state", "rows", "count", "limit"] (defScope s_law_turned) := ⟨rfl, rfl, rfl, by decide +kernel, rfl, by decide +kernel, by decide +kernel⟩
-- 0:state 1:rows 2:count 3:limit 4:out 5:there 6:back 7:step 8:i 9:j 10:many 11:row 12:new 13:x 14:k
abbrev s_law_told_coordinates : Stmt := top 68
abbrev n_law_told_coordinates : List Str := ["a", "v"]
theorem c_law_told_coordinates : FnScope n_law_told_coordinates ["a", "v"] (defScope s_law_told_coordinates) := ⟨rfl, rfl, rfl, by decide +kernel, rfl, by decide +kernel, by decide +kernel⟩
-- 0:a 1:v
abbrev s_law_box : Stmt := top 69
abbrev n_law_box : List Str := ["wide", "low", "high", "found", "k", "more", "v", "x"]
theorem c_law_box : FnScope n_law_box ["wide", "low", "high"] (defScope s_law_box) := ⟨rfl, rfl, rfl, by decide +kernel, rfl, by decide +kernel, by decide +kernel⟩
-- 0:wide 1:low 2:high 3:found 4:k 5:more 6:v 7:x
abbrev s_law_shape : Stmt := top 70
abbrev n_law_shape : List Str := ["seen", "wide", "m", "best", "v", "at", "k", "j"]
theorem c_law_shape : FnScope n_law_shape ["seen", "wide", "m"] (defScope s_law_shape) := ⟨rfl, rfl, rfl, by decide +kernel, rfl, by decide +kernel, by decide +kernel⟩
-- 0:seen 1:wide 2:m 3:best 4:v 5:at 6:k 7:j
abbrev s_law_fits : Stmt := top 71
abbrev n_law_fits : List Str := ["sums", "m", "v", "c"]
theorem c_law_fits : FnScope n_law_fits ["sums", "m", "v"] (defScope s_law_fits) := ⟨rfl, rfl, rfl, by decide +kernel, rfl, by decide +kernel, by decide +kernel⟩
-- 0:sums 1:m 2:v 3:c
abbrev s_law_passed : Stmt := top 72
abbrev n_law_passed : List Str := ["state", "rows", "wide", "limit", "out", "k", "row", "other", "x"]
theorem c_law_passed : FnScope n_law_passed ["state", "rows", "wide", "limit"] (defScope s_law_passed) := ⟨rfl, rfl, rfl, by decide +kernel, rfl, by decide +kernel, by decide +kernel⟩
-- 0:state 1:rows 2:wide 3:limit 4:out 5:k 6:row 7:other 8:x
abbrev s_law_small : Stmt := top 73
abbrev n_law_small : List Str := ["state", "wide", "m", "sums", "k", "seen", "form", "many", "a", "at", "box", "v", "j"]
theorem c_law_small : FnScope n_law_small ["state"] (defScope s_law_small) := ⟨rfl, rfl, rfl, by decide +kernel, rfl, by decide +kernel, by decide +kernel⟩
-- 0:state 1:wide 2:m 3:sums 4:k 5:seen 6:form 7:many 8:a 9:at 10:box 11:v 12:j
abbrev s_law_basis : Stmt := top 74
abbrev n_law_basis : List Str := ["state", "wide", "rank", "at", "k", "top", "rows", "row", "j"]
theorem c_law_basis : FnScope n_law_basis ["state", "wide", "rank"] (defScope s_law_basis) := ⟨rfl, rfl, rfl, by decide +kernel, rfl, by decide +kernel, by decide +kernel⟩
-- 0:state 1:wide 2:rank 3:at 4:k 5:top 6:rows 7:row 8:j
abbrev s_law_vector : Stmt := top 75
abbrev n_law_vector : List Str := ["state", "rows", "many", "wide", "way", "v", "at", "k", "row", "x"]
theorem c_law_vector : FnScope n_law_vector ["state", "rows", "many", "wide"] (defScope s_law_vector) := ⟨rfl, rfl, rfl, by decide +kernel, rfl, by decide +kernel, by decide +kernel⟩
-- 0:state 1:rows 2:many 3:wide 4:way 5:v 6:at 7:k 8:row 9:x
abbrev s_law_asked : Stmt := top 76
abbrev n_law_asked : List Str := ["rows", "many", "a", "v", "wide", "reduced", "due", "place", "row"]
theorem c_law_asked : FnScope n_law_asked ["rows", "many", "a", "v"] (defScope s_law_asked) := ⟨rfl, rfl, rfl, by decide +kernel, rfl, by decide +kernel, by decide +kernel⟩
-- 0:rows 1:many 2:a 3:v 4:wide 5:reduced 6:due 7:place 8:row
abbrev s_law_large : Stmt := top 77
abbrev n_law_large : List Str := ["state", "wide", "rank", "rows", "many", "a", "due", "k", "second", "changed", "within", "b", "v", "row"]
theorem c_law_large : FnScope n_law_large ["state"] (defScope s_law_large) := ⟨rfl, rfl, rfl, by decide +kernel, rfl, by decide +kernel, by decide +kernel⟩
-- 0:state 1:wide 2:rank 3:rows 4:many 5:a 6:due 7:k 8:second 9:changed 10:within 11:b 12:v 13:row
abbrev s_law : Stmt := top 78
abbrev n_law : List Str := ["script", "state"]
theorem c_law : FnScope n_law ["script"] (defScope s_law) := ⟨rfl, rfl, rfl, by decide +kernel, rfl, by decide +kernel, by decide +kernel⟩
-- 0:script 1:state
abbrev s_Work_init : Stmt := inClass (top 32) 0
abbrev n_Work_init : List Str := ["self", "a", "row"]
theorem c_Work_init : FnScope n_Work_init ["self", "a"] (defScope s_Work_init) := ⟨rfl, rfl, rfl, by decide +kernel, rfl, by decide +kernel, by decide +kernel⟩
-- 0:self 1:a 2:row
abbrev s_Work_swap : Stmt := inClass (top 32) 1
abbrev n_Work_swap : List Str := ["self", "i", "j", "rows"]
theorem c_Work_swap : FnScope n_Work_swap ["self", "i", "j"] (defScope s_Work_swap) := ⟨rfl, rfl, rfl, by decide +kernel, rfl, by decide +kernel, by decide +kernel⟩
-- 0:self 1:i 2:j 3:rows
abbrev s_Work_turn : Stmt := inClass (top 32) 2
abbrev n_Work_turn : List Str := ["self", "i", "rows", "one"]
theorem c_Work_turn : FnScope n_Work_turn ["self", "i"] (defScope s_Work_turn) := ⟨rfl, rfl, rfl, by decide +kernel, rfl, by decide +kernel, by decide +kernel⟩
-- 0:self 1:i 2:rows 3:one
abbrev s_Work_take : Stmt := inClass (top 32) 3
abbrev n_Work_take : List Str := ["self", "i", "k", "j"]
theorem c_Work_take : FnScope n_Work_take ["self", "i", "k", "j"] (defScope s_Work_take) := ⟨rfl, rfl, rfl, by decide +kernel, rfl, by decide +kernel, by decide +kernel⟩
-- 0:self 1:i 2:k 3:j
abbrev s_Work_ways : Stmt := inClass (top 32) 4
abbrev n_Work_ways : List Str := ["self", "there", "back", "row"]
theorem c_Work_ways : FnScope n_Work_ways ["self"] (defScope s_Work_ways) := ⟨rfl, rfl, rfl, by decide +kernel, rfl, by decide +kernel, by decide +kernel⟩
-- 0:self 1:there 2:back 3:row
class WkCtx where
  Ca : Addr
  cA : Addr
  pA : Addr
open WkCtx
instance [WkCtx] : TabCtx := ⟨[(pA, "clear_column.<locals>.<lambda>")]⟩
variable [WkCtx]
/-! ### an own exception class and what the law asks of it -/
structure ExW (g : Pg) (x fld : Str) (st : Stmt) (no : List Str) : Prop where
  ex : ∃ Ca fI : Addr, g.mg x = some (.ref Ca) ∧ SupC g.P g.K Ca fI st fld ∧ ExcC g.K Ca ∧ (∀ y ∈ no, ∃ Da : Addr, g.mg y = some (.ref Da) ∧ PySem.W.kitOne g.K (.ref Ca) (.ref Da) = some false) ∧ PySem.W.kitOne g.K (.ref Ca) (.ref Ca) = some true ∧ PySem.W.kitOne g.K (.ref Ca) (.type "ValueError") = some true ∧
    ∃ Cb : Addr, g.mg "CoreError" = some (.ref Cb) ∧ PySem.W.exmOne g.K (.ref Ca) (.ref Cb) = some true
abbrev s_Undefined_init : Stmt := inClass (top 9) 0
structure Wd (g : Pg) : Prop where
  x_Undefined : ExW g "Undefined" "what" s_Undefined_init ["InvalidMatrix", "InvalidVector", "InvalidNumber", "InvalidQuestion", "InvalidLine", "InvalidText", "Unfit", "TooMany", "NothingDone"]
  f_super : g.mg "super" = none
  f_repr : g.mg "repr" = none
  f_ValueError : g.mg "ValueError" = none
  b : Bs g
  l_clear_column : TxtC g "clear_column" s_clear_column cA pA
  cls_Work : Cls g.K Ca
  no_rows : NoAttr g.K Ca "rows"
  no_there : NoAttr g.K Ca "there"
  no_back : NoAttr g.K Ca "back"
  mg_Work : g.mg "Work" = some (.ref Ca)
  in_Work : ∃ (f : Addr) (fd : FuncData), Fun g.K "__init__" "Work.__init__" s_Work_init f fd ∧ Mk g.K Ca f
  m_swap : TxtM g Ca "Work.swap" "swap" s_Work_swap
  m_turn : TxtM g Ca "Work.turn" "turn" s_Work_turn
  m_take : TxtM g Ca "Work.take" "take" s_Work_take
  m_ways : TxtM g Ca "Work.ways" "ways" s_Work_ways
  seer : g.base.NoSeer
  tree : g.P.given.tree = none
  t_is_number : TxtF g "is_number" s_is_number
  t_is_from_to : TxtF g "is_from_to" s_is_from_to
  t_is_row : TxtF g "is_row" s_is_row
  t_is_vector : TxtF g "is_vector" s_is_vector
  t_is_matrix : TxtF g "is_matrix" s_is_matrix
  t_checked_vector : TxtF g "checked_vector" s_checked_vector
  t_checked_matrix : TxtF g "checked_matrix" s_checked_matrix
  t_check_sizes : TxtF g "check_sizes" s_check_sizes
  t_checked_pair : TxtF g "checked_pair" s_checked_pair
  t_checked_with : TxtF g "checked_with" s_checked_with
  t_flipped : TxtF g "flipped" s_flipped
  t_unit : TxtF g "unit" s_unit
  t_is_zero : TxtF g "is_zero" s_is_zero
  t_less_multiple : TxtF g "less_multiple" s_less_multiple
  t_lead : TxtF g "lead" s_lead
  t_hermite_ways : TxtF g "hermite_ways" s_hermite_ways
  t_form_of : TxtF g "form_of" s_form_of
  t_basis_of : TxtF g "basis_of" s_basis_of
  t_pivots_of : TxtF g "pivots_of" s_pivots_of
  t_basis : TxtF g "basis" s_basis
  t_pivots : TxtF g "pivots" s_pivots
  t_reduced_by : TxtF g "reduced_by" s_reduced_by
  t_has : TxtF g "has" s_has
  t_has_all : TxtF g "has_all" s_has_all
  t_is_member : TxtF g "is_member" s_is_member
  t_is_within : TxtF g "is_within" s_is_within
  t_same_lattice : TxtF g "same_lattice" s_same_lattice
  t_remainder : TxtF g "remainder" s_remainder
  t_in_basis : TxtF g "in_basis" s_in_basis
  t_coordinates : TxtF g "coordinates" s_coordinates
  t_law_start : TxtF g "_law_start" s_law_start
  t_law_draw : TxtF g "_law_draw" s_law_draw
  t_law_span : TxtF g "_law_span" s_law_span
  t_law_number : TxtF g "_law_number" s_law_number
  t_law_same : TxtF g "_law_same" s_law_same
  t_law_frozen : TxtF g "_law_frozen" s_law_frozen
  t_law_given : TxtF g "_law_given" s_law_given
  t_law_kept : TxtF g "_law_kept" s_law_kept
  t_law_refusal : TxtF g "_law_refusal" s_law_refusal
  t_law_dot : TxtF g "_law_dot" s_law_dot
  t_law_led : TxtF g "_law_led" s_law_led
  t_law_first : TxtF g "_law_first" s_law_first
  t_law_tidied : TxtF g "_law_tidied" s_law_tidied
  t_law_left : TxtF g "_law_left" s_law_left
  t_law_identity : TxtF g "_law_identity" s_law_identity
  t_law_turned : TxtF g "_law_turned" s_law_turned
  t_law_told_coordinates : TxtF g "_law_told_coordinates" s_law_told_coordinates
  t_law_box : TxtF g "_law_box" s_law_box
  t_law_shape : TxtF g "_law_shape" s_law_shape
  t_law_fits : TxtF g "_law_fits" s_law_fits
  t_law_passed : TxtF g "_law_passed" s_law_passed
  t_law_small : TxtF g "_law_small" s_law_small
  t_law_basis : TxtF g "_law_basis" s_law_basis
  t_law_vector : TxtF g "_law_vector" s_law_vector
  t_law_asked : TxtF g "_law_asked" s_law_asked
  t_law_large : TxtF g "_law_large" s_law_large
  t_law : TxtF g "law" s_law
  g_MOST_SIZE : ∃ t, g.mg "MOST_SIZE" = some (.int 8 t)
  g_MOST_NUMBER : ∃ t, g.mg "MOST_NUMBER" = some (.int 1000000 t)
end Ab
end
set_option maxHeartbeats 0
/-! ### the head -/
namespace Ab
open PySem PySem.Spec PyProof.Rows L2
def d_is_number : He.DefD := ⟨("is_number", none), "is_number", "is_number", defArgs s_is_number, defBody s_is_number, defScope s_is_number, [], []⟩
def d_is_from_to : He.DefD := ⟨("is_from_to", none), "is_from_to", "is_from_to", defArgs s_is_from_to, defBody s_is_from_to, defScope s_is_from_to, [], []⟩
def d_is_row : He.DefD := ⟨("is_row", none), "is_row", "is_row", defArgs s_is_row, defBody s_is_row, defScope s_is_row, [], []⟩
def d_is_vector : He.DefD := ⟨("is_vector", none), "is_vector", "is_vector", defArgs s_is_vector, defBody s_is_vector, defScope s_is_vector, [], []⟩
def d_is_matrix : He.DefD := ⟨("is_matrix", none), "is_matrix", "is_matrix", defArgs s_is_matrix, defBody s_is_matrix, defScope s_is_matrix, [], []⟩
def d_checked_vector : He.DefD := ⟨("checked_vector", none), "checked_vector", "checked_vector", defArgs s_checked_vector, defBody s_checked_vector, defScope s_checked_vector, [], []⟩
def d_checked_matrix : He.DefD := ⟨("checked_matrix", none), "checked_matrix", "checked_matrix", defArgs s_checked_matrix, defBody s_checked_matrix, defScope s_checked_matrix, [], []⟩
def d_check_sizes : He.DefD := ⟨("check_sizes", none), "check_sizes", "check_sizes", defArgs s_check_sizes, defBody s_check_sizes, defScope s_check_sizes, [], []⟩
def d_checked_pair : He.DefD := ⟨("checked_pair", none), "checked_pair", "checked_pair", defArgs s_checked_pair, defBody s_checked_pair, defScope s_checked_pair, [], []⟩
def d_checked_with : He.DefD := ⟨("checked_with", none), "checked_with", "checked_with", defArgs s_checked_with, defBody s_checked_with, defScope s_checked_with, [], []⟩
def d_flipped : He.DefD := ⟨("flipped", none), "flipped", "flipped", defArgs s_flipped, defBody s_flipped, defScope s_flipped, [], []⟩
def d_unit : He.DefD := ⟨("unit", none), "unit", "unit", defArgs s_unit, defBody s_unit, defScope s_unit, [], []⟩
def d_is_zero : He.DefD := ⟨("is_zero", none), "is_zero", "is_zero", defArgs s_is_zero, defBody s_is_zero, defScope s_is_zero, [], []⟩
def d_less_multiple : He.DefD := ⟨("less_multiple", none), "less_multiple", "less_multiple", defArgs s_less_multiple, defBody s_less_multiple, defScope s_less_multiple, [], []⟩
def d_lead : He.DefD := ⟨("lead", none), "lead", "lead", defArgs s_lead, defBody s_lead, defScope s_lead, [], []⟩
def d_clear_column : He.DefD := ⟨("clear_column", none), "clear_column", "clear_column", defArgs s_clear_column, defBody s_clear_column, defScope s_clear_column, [], []⟩
def d_hermite_ways : He.DefD := ⟨("hermite_ways", none), "hermite_ways", "hermite_ways", defArgs s_hermite_ways, defBody s_hermite_ways, defScope s_hermite_ways, [], []⟩
def d_form_of : He.DefD := ⟨("form_of", none), "form_of", "form_of", defArgs s_form_of, defBody s_form_of, defScope s_form_of, [], []⟩
def d_basis_of : He.DefD := ⟨("basis_of", none), "basis_of", "basis_of", defArgs s_basis_of, defBody s_basis_of, defScope s_basis_of, [], []⟩
def d_pivots_of : He.DefD := ⟨("pivots_of", none), "pivots_of", "pivots_of", defArgs s_pivots_of, defBody s_pivots_of, defScope s_pivots_of, [], []⟩
def d_basis : He.DefD := ⟨("basis", none), "basis", "basis", defArgs s_basis, defBody s_basis, defScope s_basis, [], []⟩
def d_pivots : He.DefD := ⟨("pivots", none), "pivots", "pivots", defArgs s_pivots, defBody s_pivots, defScope s_pivots, [], []⟩
def d_reduced_by : He.DefD := ⟨("reduced_by", none), "reduced_by", "reduced_by", defArgs s_reduced_by, defBody s_reduced_by, defScope s_reduced_by, [], []⟩
def d_has : He.DefD := ⟨("has", none), "has", "has", defArgs s_has, defBody s_has, defScope s_has, [], []⟩
def d_has_all : He.DefD := ⟨("has_all", none), "has_all", "has_all", defArgs s_has_all, defBody s_has_all, defScope s_has_all, [], []⟩
def d_is_member : He.DefD := ⟨("is_member", none), "is_member", "is_member", defArgs s_is_member, defBody s_is_member, defScope s_is_member, [], []⟩
def d_is_within : He.DefD := ⟨("is_within", none), "is_within", "is_within", defArgs s_is_within, defBody s_is_within, defScope s_is_within, [], []⟩
def d_same_lattice : He.DefD := ⟨("same_lattice", none), "same_lattice", "same_lattice", defArgs s_same_lattice, defBody s_same_lattice, defScope s_same_lattice, [], []⟩
def d_remainder : He.DefD := ⟨("remainder", none), "remainder", "remainder", defArgs s_remainder, defBody s_remainder, defScope s_remainder, [], []⟩
def d_in_basis : He.DefD := ⟨("in_basis", none), "in_basis", "in_basis", defArgs s_in_basis, defBody s_in_basis, defScope s_in_basis, [], []⟩
def d_coordinates : He.DefD := ⟨("coordinates", none), "coordinates", "coordinates", defArgs s_coordinates, defBody s_coordinates, defScope s_coordinates, [], []⟩
def d_law_start : He.DefD := ⟨("_law_start", none), "_law_start", "_law_start", defArgs s_law_start, defBody s_law_start, defScope s_law_start, [], []⟩
def d_law_draw : He.DefD := ⟨("_law_draw", none), "_law_draw", "_law_draw", defArgs s_law_draw, defBody s_law_draw, defScope s_law_draw, [], []⟩
def d_law_span : He.DefD := ⟨("_law_span", none), "_law_span", "_law_span", defArgs s_law_span, defBody s_law_span, defScope s_law_span, [], []⟩
def d_law_number : He.DefD := ⟨("_law_number", none), "_law_number", "_law_number", defArgs s_law_number, defBody s_law_number, defScope s_law_number, [], []⟩
def d_law_same : He.DefD := ⟨("_law_same", none), "_law_same", "_law_same", defArgs s_law_same, defBody s_law_same, defScope s_law_same, [], []⟩
def d_law_frozen : He.DefD := ⟨("_law_frozen", none), "_law_frozen", "_law_frozen", defArgs s_law_frozen, defBody s_law_frozen, defScope s_law_frozen, [], []⟩
def d_law_given : He.DefD := ⟨("_law_given", none), "_law_given", "_law_given", defArgs s_law_given, defBody s_law_given, defScope s_law_given, [], []⟩
def d_law_kept : He.DefD := ⟨("_law_kept", none), "_law_kept", "_law_kept", defArgs s_law_kept, defBody s_law_kept, defScope s_law_kept, [], []⟩
def d_law_refusal : He.DefD := ⟨("_law_refusal", none), "_law_refusal", "_law_refusal", defArgs s_law_refusal, defBody s_law_refusal, defScope s_law_refusal, [], []⟩
def d_law_dot : He.DefD := ⟨("_law_dot", none), "_law_dot", "_law_dot", defArgs s_law_dot, defBody s_law_dot, defScope s_law_dot, [], []⟩
def d_law_led : He.DefD := ⟨("_law_led", none), "_law_led", "_law_led", defArgs s_law_led, defBody s_law_led, defScope s_law_led, [], []⟩
def d_law_first : He.DefD := ⟨("_law_first", none), "_law_first", "_law_first", defArgs s_law_first, defBody s_law_first, defScope s_law_first, [], []⟩
def d_law_tidied : He.DefD := ⟨("_law_tidied", none), "_law_tidied", "_law_tidied", defArgs s_law_tidied, defBody s_law_tidied, defScope s_law_tidied, [], []⟩
def d_law_left : He.DefD := ⟨("_law_left", none), "_law_left", "_law_left", defArgs s_law_left, defBody s_law_left, defScope s_law_left, [], []⟩
def d_law_identity : He.DefD := ⟨("_law_identity", none), "_law_identity", "_law_identity", defArgs s_law_identity, defBody s_law_identity, defScope s_law_identity, [], []⟩
def d_law_turned : He.DefD := ⟨("_law_turned", none), "_law_turned", "_law_turned", defArgs s_law_turned, defBody s_law_turned, defScope s_law_turned, [], []⟩
def d_law_told_coordinates : He.DefD := ⟨("_law_told_coordinates", none), "_law_told_coordinates", "_law_told_coordinates", defArgs s_law_told_coordinates, defBody s_law_told_coordinates, defScope s_law_told_coordinates, [], []⟩
def d_law_box : He.DefD := ⟨("_law_box", none), "_law_box", "_law_box", defArgs s_law_box, defBody s_law_box, defScope s_law_box, [], []⟩
def d_law_shape : He.DefD := ⟨("_law_shape", none), "_law_shape", "_law_shape", defArgs s_law_shape, defBody s_law_shape, defScope s_law_shape, [], []⟩
def d_law_fits : He.DefD := ⟨("_law_fits", none), "_law_fits", "_law_fits", defArgs s_law_fits, defBody s_law_fits, defScope s_law_fits, [], []⟩
def d_law_passed : He.DefD := ⟨("_law_passed", none), "_law_passed", "_law_passed", defArgs s_law_passed, defBody s_law_passed, defScope s_law_passed, [], []⟩
def d_law_small : He.DefD := ⟨("_law_small", none), "_law_small", "_law_small", defArgs s_law_small, defBody s_law_small, defScope s_law_small, [], []⟩
def d_law_basis : He.DefD := ⟨("_law_basis", none), "_law_basis", "_law_basis", defArgs s_law_basis, defBody s_law_basis, defScope s_law_basis, [], []⟩
def d_law_vector : He.DefD := ⟨("_law_vector", none), "_law_vector", "_law_vector", defArgs s_law_vector, defBody s_law_vector, defScope s_law_vector, [], []⟩
def d_law_asked : He.DefD := ⟨("_law_asked", none), "_law_asked", "_law_asked", defArgs s_law_asked, defBody s_law_asked, defScope s_law_asked, [], []⟩
def d_law_large : He.DefD := ⟨("_law_large", none), "_law_large", "_law_large", defArgs s_law_large, defBody s_law_large, defScope s_law_large, [], []⟩
def d_law : He.DefD := ⟨("law", none), "law", "law", defArgs s_law, defBody s_law, defScope s_law, [], []⟩
def d_Work_init : He.DefD := ⟨("Work", some "__init__"), "__init__", "Work.__init__", defArgs s_Work_init, defBody s_Work_init, defScope s_Work_init, [], []⟩
def d_Work_swap : He.DefD := ⟨("Work", some "swap"), "swap", "Work.swap", defArgs s_Work_swap, defBody s_Work_swap, defScope s_Work_swap, [], []⟩
def d_Work_turn : He.DefD := ⟨("Work", some "turn"), "turn", "Work.turn", defArgs s_Work_turn, defBody s_Work_turn, defScope s_Work_turn, [], []⟩
def d_Work_take : He.DefD := ⟨("Work", some "take"), "take", "Work.take", defArgs s_Work_take, defBody s_Work_take, defScope s_Work_take, [], []⟩
def d_Work_ways : He.DefD := ⟨("Work", some "ways"), "ways", "Work.ways", defArgs s_Work_ways, defBody s_Work_ways, defScope s_Work_ways, [], []⟩
def hfn0 : List He.DefD := [d_is_number, d_is_from_to, d_is_row, d_is_vector, d_is_matrix, d_checked_vector, d_checked_matrix, d_check_sizes, d_checked_pair, d_checked_with, d_flipped, d_unit, d_is_zero, d_less_multiple, d_lead, d_clear_column, d_hermite_ways, d_form_of, d_basis_of, d_pivots_of]
def hfn1 : List He.DefD := [d_basis, d_pivots, d_reduced_by, d_has, d_has_all, d_is_member, d_is_within, d_same_lattice, d_remainder, d_in_basis, d_coordinates, d_law_start, d_law_draw, d_law_span, d_law_number, d_law_same, d_law_frozen, d_law_given, d_law_kept, d_law_refusal]
def hfn2 : List He.DefD := [d_law_dot, d_law_led, d_law_first, d_law_tidied, d_law_left, d_law_identity, d_law_turned, d_law_told_coordinates, d_law_box, d_law_shape, d_law_fits, d_law_passed, d_law_small, d_law_basis, d_law_vector, d_law_asked, d_law_large, d_law, d_Work_init, d_Work_swap]
def hfn3 : List He.DefD := [d_Work_turn, d_Work_take, d_Work_ways]
def hfn : List He.DefD := hfn0 ++ hfn1 ++ hfn2 ++ hfn3
def hfa0 : List He.Fa := [.glo "is_number", .glo "is_from_to", .glo "is_row", .glo "is_vector", .glo "is_matrix", .glo "checked_vector", .glo "checked_matrix", .glo "check_sizes", .glo "checked_pair", .glo "checked_with", .glo "flipped", .glo "unit", .glo "is_zero", .glo "less_multiple", .glo "lead", .glo "clear_column", .glo "hermite_ways", .glo "form_of", .glo "basis_of", .glo "pivots_of"]
def hfa1 : List He.Fa := [.glo "basis", .glo "pivots", .glo "reduced_by", .glo "has", .glo "has_all", .glo "is_member", .glo "is_within", .glo "same_lattice", .glo "remainder", .glo "in_basis", .glo "coordinates", .glo "_law_start", .glo "_law_draw", .glo "_law_span", .glo "_law_number", .glo "_law_same", .glo "_law_frozen", .glo "_law_given", .glo "_law_kept", .glo "_law_refusal"]
def hfa2 : List He.Fa := [.glo "_law_dot", .glo "_law_led", .glo "_law_first", .glo "_law_tidied", .glo "_law_left", .glo "_law_identity", .glo "_law_turned", .glo "_law_told_coordinates", .glo "_law_box", .glo "_law_shape", .glo "_law_fits", .glo "_law_passed", .glo "_law_small", .glo "_law_basis", .glo "_law_vector", .glo "_law_asked", .glo "_law_large", .glo "law", .free "len", .free "sum"]
def hfa3 : List He.Fa := [.free "all", .free "any", .free "abs", .free "min", .free "max", .free "int", .free "bool", .free "str", .free "tuple", .free "list", .free "range", .free "zip", .free "enumerate", .free "isinstance", .free "reversed", .free "sorted", .int "MOST_SIZE" 8, .int "MOST_NUMBER" 1000000, .cls "Work", .noat "Work" "rows"]
def hfa4 : List He.Fa := [.noat "Work" "there", .noat "Work" "back", .meth "Work" "swap", .meth "Work" "turn", .meth "Work" "take", .meth "Work" "ways", .mkr "Work", .glo "Work", .free "super", .free "repr", .free "ValueError", .glo "CoreError", .glo "InvalidMatrix", .glo "InvalidVector", .glo "InvalidNumber", .glo "InvalidQuestion", .glo "InvalidLine", .glo "InvalidText", .glo "Unfit", .glo "Undefined"]
def hfa5 : List He.Fa := [.glo "TooMany", .glo "NothingDone"]
def hfa : List He.Fa := hfa0 ++ hfa1 ++ hfa2 ++ hfa3 ++ hfa4 ++ hfa5
def hloose0 : List Str := ["__name__", "CoreError", "InvalidMatrix", "InvalidVector", "InvalidNumber", "InvalidQuestion", "InvalidLine", "InvalidText", "Unfit", "Undefined", "TooMany", "NothingDone", "MOST_SIZE", "MOST_NUMBER", "is_number", "is_from_to", "is_row", "is_vector", "is_matrix", "checked_vector"]
def hloose1 : List Str := ["checked_matrix", "check_sizes", "checked_pair", "checked_with", "flipped", "unit", "is_zero", "less_multiple", "lead", "Work", "clear_column", "hermite_ways", "form_of", "basis_of", "pivots_of", "basis", "pivots", "reduced_by", "has", "has_all"]
def hloose2 : List Str := ["is_member", "is_within", "same_lattice", "remainder", "in_basis", "coordinates", "_law_start", "_law_draw", "_law_span", "_law_number", "_law_same", "_law_frozen", "_law_given", "_law_kept", "_law_refusal", "_law_dot", "_law_led", "_law_first", "_law_tidied", "_law_left"]
def hloose3 : List Str := ["_law_identity", "_law_turned", "_law_told_coordinates", "_law_box", "_law_shape", "_law_fits", "_law_passed", "_law_small", "_law_basis", "_law_vector", "_law_asked", "_law_large"]
def hloose : List Str := hloose0 ++ hloose1 ++ hloose2 ++ hloose3
def hts : List He.Tab := []
def keysB (K : PySem.W.Frag) (a : Addr) (ks : List Str) : Bool := match K.lookup a with
  | some ⟨_, _, .dict es _, _⟩ => es.toList.all fun e => match e.key with
    | .str x _ => ks.contains x
    | _ => false
  | _ => false
/-! ### an exception's class and its maker, looked at -/
def oexB (K : PySem.W.Frag) (C : Addr) : Bool := match K.lookup C with
  | some ⟨.type "type", _, .cls kd, ss⟩ => (match kd.mro, ss.toList with
    | .ref z :: up, [_, _, _, _, some (.builtin made), _] => PySem.HandSPX.refsVE up && (kd.hasDict && (!kd.hasDel && (z == C && made == "ValueError.__new__")))
    | _, _ => false)
  | _ => false
theorem oexB_ok {K : PySem.W.Frag} {C : Addr} (q : oexB K C = true) : ∃ nm q N bs bm sn sub ab col dd k0 k1 k2 k3 k5, K.lookup C = some (excClassObj nm q C N bs bm true sn sub ab col dd k0 k1 k2 k3 k5 "ValueError.__new__") ∧ PySem.HandSPX.refsVE bm = true := by
  unfold oexB at q
  split at q
  · rename_i od kd ss look
    split at q
    · rename_i z up s0 s1 s2 s3 made s5 em es
      obtain ⟨t1, q2⟩ := Bool.and_eq_true_iff.mp q
      obtain ⟨t2, q3⟩ := Bool.and_eq_true_iff.mp q2
      obtain ⟨t3, q4⟩ := Bool.and_eq_true_iff.mp q3
      obtain ⟨t4, t5⟩ := Bool.and_eq_true_iff.mp q4
      obtain rfl := beq_iff_eq.mp t4
      obtain rfl := beq_iff_eq.mp t5
      obtain ⟨f1, f2, f3, f4, f5, f6, f7, f8, f9, f10, f11⟩ := kd
      have e11 : f11 = false := by
        cases f11 with
        | false => rfl
        | true => cases t3
      have e6 : f6 = true := t2
      have e3 : f3 = .ref z :: up := em
      subst e11 e6 e3
      have e0 : ss = #[s0, s1, s2, s3, some (.builtin "ValueError.__new__"), s5] := Array.toList_inj.mp es
      subst e0
      exact ⟨f1, f5, f4, f2, up, f7, f8, f9, f10, od, s0, s1, s2, s3, s5, look, t1⟩
    · cases q
  · cases q
abbrev IniV : Type := Option (Str × Str × Arguments × FuncBody × Scope × Addr × List Str × Value × Addr)
def fnC (K : PySem.W.Frag) (f : Addr) : IniV := match K.lookup f with
  | some ⟨_, _, .func fd, _⟩ => some (fd.name, fd.qualname, fd.params, fd.body, fd.scope, fd.globals, fd.closure.map (·.1), fd.defaults, fd.builtins)
  | _ => none
def iniVal (q : Str) (st : Stmt) : IniV := some ("__init__", q, defArgs st, .stmts (defBody st), defScope st, mainGlobals, ["__class__"], .none, builtinsNs)
def fileB (K : PySem.W.Frag) (cd : Value) (file : Str) : Bool := match cd with
  | .ref c => (match K.lookup c with
    | some ⟨_, _, .fields vs, _⟩ => (match (vs.toList[2]? : Option Value) with
      | some (Value.str z _) => file == z
      | _ => false)
    | _ => false)
  | _ => false
def cellB (K : PySem.W.Frag) (cc C : Addr) : Bool := match K.lookup cc with
  | some ⟨_, _, .cell (some (.ref D)), _⟩ => D == C
  | _ => false
def clB (K : PySem.W.Frag) (cl : List (Str × Addr)) (C : Addr) : Bool := match cl with
  | [p] => cellB K p.2 C
  | _ => false
def iniB (K : PySem.W.Frag) (f C : Addr) (q file : Str) : Bool := match K.lookup f with
  | some ⟨_, _, .func fd, _⟩ => PySem.W.codeIn K fd.code q && (fileB K fd.code file && clB K fd.closure C)
  | _ => false
theorem ini_ok {K : PySem.W.Frag} {f C : Addr} {q file : Str} {st : Stmt} (e : fnC K f = iniVal q st) (b : iniB K f C q file = true) : ∃ (oc : Value) (od : Option Addr) (osl : Array (Option Value)) (q : Str) (kV doc pm ct : Value) (an : Option Addr) (cda cc : Addr),
    K.lookup f = some ⟨oc, od, .func (PySem.W.ksFn "__init__" q (defArgs st) (defBody st) (defScope st) .none kV doc pm an (.ref cda) ct cc), osl⟩ ∧ PySem.W.codeIn K (.ref cda) q = true ∧
    (∃ (a b : _) (d : _) (vs : Array Value) (fl : Str) (tf : Tok), K.lookup cda = some ⟨a, b, .fields vs, d⟩ ∧ vs[2]? = some (.str fl tf) ∧ (file == fl) = true) ∧
    ∃ (a b d : _), K.lookup cc = some ⟨a, b, .cell (some (.ref C)), d⟩ := by
  unfold fnC at e
  unfold iniB at b
  cases h : K.lookup f with
  | none =>
    rw [h] at b
    cases b
  | some o =>
    obtain ⟨oc, od, dt, osl⟩ := o
    rw [h] at b e
    cases dt with
    | func fd =>
      obtain ⟨n1, n2, n3, n4, n5, n6, n7, n8, n9, n10, n11, n12, n13, n14, n15⟩ := fd
      have e2 : (some (n1, n2, n3, n4, n5, n6, n7.map (·.1), n8, n15) : IniV) = iniVal q st := e
      unfold iniVal at e2
      simp only [Option.some.injEq, Prod.mk.injEq] at e2
      obtain ⟨h1, h2, h3, h4, h5, h6, h7, h8, h9⟩ := e2
      subst h1 h2 h3 h4 h5 h6 h8 h9
      have c3 : (PySem.W.codeIn K n13 n2 && (fileB K n13 file && clB K n7 C)) = true := b
      obtain ⟨k1, k2⟩ := Bool.and_eq_true_iff.mp c3
      obtain ⟨k3, k4⟩ := Bool.and_eq_true_iff.mp k2
      cases n7 with
      | nil => cases h7
      | cons p r =>
        cases r with
        | cons p2 r2 => cases k4
        | nil =>
          obtain ⟨x, cc⟩ := p
          have hx : x = "__class__" := by
            have := h7
            simp at this
            exact this
          subst hx
          obtain ⟨cda, rfl⟩ := He.codeIn_ref k1
          refine ⟨oc, od, osl, n2, n9, n10, n11, n14, n12, cda, cc, rfl, k1, ?_, ?_⟩
          · unfold fileB at k3
            cases hc : K.lookup cda with
            | none => simp only [hc] at k3; cases k3
            | some u =>
              obtain ⟨u1, u2, dt, u3⟩ := u
              simp only [hc] at k3
              cases dt with
              | fields vs =>
                dsimp only at k3
                cases hv : vs.toList[2]? with
                | none => rw [hv] at k3; cases k3
                | some v =>
                  rw [hv] at k3
                  cases v with
                  | str z t => exact ⟨u1, u2, u3, vs, z, t, rfl, by rw [← Array.getElem?_toList]; exact hv, k3⟩
                  | _ => cases k3
              | _ => cases k3
          · have k5 : cellB K cc C = true := k4
            unfold cellB at k5
            cases hc : K.lookup cc with
            | none => rw [hc] at k5; cases k5
            | some u =>
              obtain ⟨u1, u2, dt, u3⟩ := u
              rw [hc] at k5
              cases dt with
              | cell v =>
                cases v with
                | none => cases k5
                | some v =>
                  cases v with
                  | ref D =>
                    have : D = C := beq_iff_eq.mp k5
                    subst this
                    exact ⟨u1, u2, u3, rfl⟩
                  | _ => cases k5
              | _ => cases k5
    | _ => cases b
def dOB (a : Option Bool) (b : Bool) : Bool := decide (a = some b)
/-- all that is asked of the class -/
def excB (K : PySem.W.Frag) (x fld q file : Str) (no : List Str) : Bool :=
  oexB K (He.ga K x) && (He.eqO (PySem.W.findIn K (.ref (He.ga K x)) "__setattr__") (some (some (.builtin "object.__setattr__"))) && (dOB (PySem.W.subIn K (.ref (He.ga K x)) (.type "BaseException")) true && (decide (PySem.W.typeIn K (.ref (He.ga K x)) = some (.type "type")) && (PySem.W.keepIn K (.ref (He.ga K x)) &&
  (He.eqO (PySem.W.findIn K (.ref (He.ga K x)) "__init__") (some (some (.ref (He.ma K (He.ga K x) "__init__")))) && (decide (PySem.W.typeIn K (.ref (He.ma K (He.ga K x) "__init__")) = some (.type "function")) && (iniB K (He.ma K (He.ga K x) "__init__") (He.ga K x) q file &&
  (He.eqO (PySem.W.ks_superIn K (He.ga K x) (He.ga K x) "__init__") (some (some (.builtin "ValueError.__init__"))) && (dOB (PySem.W.subIn K (.ref (He.ga K x)) (.type "ValueError")) true && (dOB (PySem.W.mroIn K (He.ga K x) (.ref (He.ga K x))) true && (He.eqO (PySem.W.nsIn K cStatics "thirdparty.any") (some none) && (He.eqO (PySem.W.findIn K (.ref (He.ga K x)) fld) (some none) &&
  (He.eqO (PySem.W.findIn K (.ref (He.ga K x)) "__getattribute__") (some (some (.builtin "BaseException.__getattribute__"))) && (He.eqO (PySem.W.findIn K (.ref (He.ga K x)) "__getattr__") (some none) && (PySem.W.hasDictIn K (He.ga K x) && (He.eqO (PySem.W.findIn K (.ref (He.ga K x)) "__class__") (some (some (.builtin "object.__class__"))) && (He.eqO (PySem.W.specialIn K (.builtin "object.__class__") "__get__") (some (some (.builtin "getset_descriptor.__get__"))) && (dOB (PySem.W.takesIn K (.builtin "object.__class__")) true && (dOB (PySem.W.mroIn K (He.ga K x) (.type "object")) true &&
  ((no.all fun y => dOB (PySem.W.kitOne K (.ref (He.ga K x)) (.ref (He.ga K y))) false) && (dOB (PySem.W.kitOne K (.ref (He.ga K x)) (.ref (He.ga K x))) true && (dOB (PySem.W.kitOne K (.ref (He.ga K x)) (.type "ValueError")) true && dOB (PySem.W.exmOne K (.ref (He.ga K x)) (.ref (He.ga K "CoreError"))) true))))))))))))))))))))))
theorem dOB_ok {a : Option Bool} {b : Bool} (h : dOB a b = true) : a = some b := of_decide_eq_true h
theorem exc_all {P : Program} {w : World} {K : PySem.W.Frag} {base : Heap} {mg : Str → Option Value} {x fld q : Str} {st : Stmt} {no : List Str} (b : excB K x fld q P.main.file no = true) (e : fnC K (He.ma K (He.ga K x) "__init__") = iniVal q st) (top : (P.main.scope.names.lookup ("super" : Str)).isSome = false)
    (hx : mg x = some (.ref (He.ga K x))) (hn : ∀ y ∈ no, mg y = some (.ref (He.ga K y))) (hc : mg "CoreError" = some (.ref (He.ga K "CoreError"))) : ExW ⟨P, w, K, mg, base⟩ x fld st no := by
  unfold excB at b
  simp only [Bool.and_eq_true] at b
  obtain ⟨b1, b2, b3, b4, b5, b6, b7, b8, b9, b10, b11, b12, b13, b14, b15, b16, b17, b18, b19, b20, b21, b22, b23, b24⟩ := b
  exact ⟨_, _, hx, ⟨⟨oexB_ok b1, He.eqO_ok b2, dOB_ok b3, of_decide_eq_true b4, b5⟩, He.eqO_ok b6, of_decide_eq_true b7, ini_ok e b8, top, He.eqO_ok b9, dOB_ok b10, dOB_ok b11, He.eqO_ok b12, He.eqO_ok b13⟩, ⟨He.eqO_ok b14, He.eqO_ok b15, dOB_ok b3, b16, He.eqO_ok b17, He.eqO_ok b18, dOB_ok b19, dOB_ok b20⟩, fun y hy => ⟨_, hn y hy, dOB_ok (List.all_eq_true.mp b21 y hy)⟩, dOB_ok b22, dOB_ok b23, _, hc, dOB_ok b24⟩
def hfile : Str := (PySem.Challenge.rw_multipliedout_k30_members_and_remainders).prog.main.file
def hno : List Str := ["InvalidMatrix", "InvalidVector", "InvalidNumber", "InvalidQuestion", "InvalidLine", "InvalidText", "Unfit", "TooMany", "NothingDone"]
def hexc (K : PySem.W.Frag) : Bool := excB K "Undefined" "what" "Undefined.__init__" hfile hno
def hini (K : PySem.W.Frag) : IniV := fnC K (He.ma K (He.ga K "Undefined") "__init__")
def hival : IniV := iniVal "Undefined.__init__" s_Undefined_init
def hex (K : PySem.W.Frag) : Bool := true
/-- what the module's names reach, and three tables of the interpreter -/
def asY (g : Addr → Option Obj) : List Addr := cStatics :: sysModules :: builtinsNs :: He.asD g 5
def kY (g : Addr → Option Obj) : PySem.W.Frag := He.frT g (asY g)
def seenY (K : PySem.W.Frag) : Bool := (K.lookup cStatics).isSome && ((K.lookup sysModules).isSome && (K.lookup builtinsNs).isSome)
def exY (K : PySem.W.Frag) : Bool := seenY K && (hex K && hexc K)
abbrev hcl : He.Defn := ("clear_column", none)
abbrev htf : List He.Defn := [hcl]
def obY (g : Addr → Option Obj) : He.AlX := (He.obsT hfa hfn hts (kY g), exY (kY g) && He.tabsB g htf (kY g))
abbrev TellsY (w : World) (h : Heap) (K : PySem.W.Frag) : Prop := He.SaysX hfa hfn hts htf exY w h K
theorem tellsY {w : World} {h : Heap} (e : obY h.get? = He.valX hfn hts w) : TellsY w h (kY h.get?) := by
  obtain ⟨e1, e2⟩ := Prod.mk.inj (show (He.obsT hfa hfn hts (kY h.get?), exY (kY h.get?) && He.tabsB h.get? htf (kY h.get?)) = (He.valT hfn hts w, true) from e)
  obtain ⟨e3, e4⟩ := Bool.and_eq_true_iff.mp e2
  have tb := fun p hp => Bool.and_eq_true_iff.mp (List.all_eq_true.mp e4 p hp)
  have lk : ∀ p ∈ htf, ∃ u, h.get? (He.cT (kY h.get?) p).2 = some u ∧ He.emptyTab u = true := fun p hp => by
    have z := (tb p hp).2
    generalize h.get? (He.cT (kY h.get?) p).2 = r at z ⊢
    cases r with
    | some u => exact ⟨u, rfl, z⟩
    | none => cases z
  exact ⟨e1, e3, fun p hp => (tb p hp).1, fun p hp => let ⟨_, q, z⟩ := lk p hp; He.frT_none q z, fun p hp => let ⟨_, q, z⟩ := lk p hp; q.trans (congrArg some (He.emptyTab_eq z))⟩
abbrev HR : PySem.W.OpenRow := PySem.W.OpenLaw.row PySem.Challenge.rw_multipliedout_k30_members_and_remainders
def hhk : PySem.W.Hook where
  α := He.AlX × IniV
  obs s := (obY s.heap.get?, hini (kY s.heap.get?))
  val w := (He.valX hfn hts w, hival)
  says w h := ∃ K : PySem.W.Frag, K.In h ∧ TellsY w h K ∧ hini K = hival
  of _ _ e := ⟨_, He.frT_in, tellsY (congrArg Prod.fst e), congrArg Prod.snd e⟩
  keeps _ _ _ := fun ⟨K, hK, c, ci⟩ k => ⟨K, hK.keeps k, ⟨c.t, c.more, c.hd, c.out, fun p hp => k _ _ (c.empty p hp)⟩, ci⟩
def hob (s : PySem.W.SharedT) : He.AlX × IniV := (obY (HandSHeadRun.getT s), hini (kY (HandSHeadRun.getT s)))
theorem hob_eq (s : PySem.W.SharedT) : hob s = hhk.obs s.abs := congrArg (fun g => (obY g, hini (kY g))) (funext (HandSHeadRun.getT_eq s))
theorem hrunF (w : World) : HandSHeadRun.RunEq HR (PySem.W.view HR.prog [78]) hhk hob 20000 hloose (w.withFollow "special-get-raises" false) := by intro os; kernel_rfl
theorem hrunT (w : World) : HandSHeadRun.RunEq HR (PySem.W.view HR.prog [78]) hhk hob 20000 hloose (w.withFollow "special-get-raises" true) := by intro os; kernel_rfl
theorem hrun (w : World) : HandSHeadRun.RunEq HR (PySem.W.view HR.prog [78]) hhk hob 20000 hloose w :=
  PySem.W.byRow2 "special-get-raises" (P := fun w => HandSHeadRun.RunEq HR (PySem.W.view HR.prog [78]) hhk hob 20000 hloose w) hrunF hrunT w
end Ab
set_option maxHeartbeats 4000000
section
set_option autoImplicit false
namespace Ab
open PySem PySem.Spec PyProof.Rows L2
variable [WkCtx]
open WkCtx
section
theorem sup_Undefined : SupT s_Undefined_init "what" "what" where
  body := ⟨_, _, _, _, _, _, _, _, _, _, rfl, _, fun _ => rfl⟩
  bind := fun _ _ _ _ _ _ _ _ _ _ => rfl
  par := ⟨_, rfl, rfl⟩
  kind := rfl
  co := rfl
  gen := rfl
  nocell := by decide +kernel
  sup := rfl
  cls := rfl
  self := rfl
  argl := rfl
  ne := by decide
  dbg := by decide
/-! ### looks -/
section
variable {g : Pg}
def isFT (d : D) (l m : Int) : Bool := match d with
  | .int i => decide (l ≤ i) && decide (i ≤ m)
  | _ => false
def D.isSeq (d : D) : Bool := d.isLst || d.isTup
def F_is_number (d r : D) : Prop := r = .bl d.isNum
theorem ok_is_number (W : Wd g) : FN g "is_number" 1 (P1 F_is_number) := by
  refine FN.mk1 W.t_is_number c_is_number (fun _ _ _ _ _ _ us hl => match us, hl with | [_], _ => rfl) (fun d r h => ?_)
  subst h
  exact SB.one (ST.ret (EV.to (EV.and (EV.isInt (EV.nm 0) W.b.isinstance W.b.int) (fun _ => EV.and1 (EV.not (EV.isBool (EV.nm 0) W.b.isinstance W.b.bool))) (fun _ => rfl)) (by cases d <;> rfl)))
def F_is_from_to (d e f r : D) : Prop := ∃ l m, e = .int l ∧ f = .int m ∧ r = .bl (isFT d l m)
theorem ok_is_from_to (W : Wd g) : FN g "is_from_to" 2 (P3 F_is_from_to) := by
  refine FN.mk3 W.t_is_from_to c_is_from_to (fun _ _ _ _ _ _ us hl => match us, hl with | [_, _, _], _ => rfl) (fun d e f r h => ?_)
  obtain ⟨l, m, rfl, rfl, rfl⟩ := h
  cases d with
  | int i => exact SB.one (ST.ret (EV.to (EV.and (EV.c1 (ok_is_number W) (EV.nm 0) (by exact rfl)) (fun _ => EV.and1 (EV.chain (M4 := []) (EV.nm 1) (EV.nm 0) CS.leI (fun _ => EV.nm 2) (fun _ => CS.leI) (fun _ => rfl))) (fun _ => rfl)) rfl))
  | _ => exact SB.one (ST.ret (EV.to (EV.and (k1 := false) (k2 := false) (EV.c1 (ok_is_number W) (EV.nm 0) (by exact rfl)) (fun z => nomatch z) (fun _ => rfl)) rfl))
def F_is_row (d r : D) : Prop := r = .bl d.isSeq
theorem ok_is_row (W : Wd g) : FN g "is_row" 1 (P1 F_is_row) := by
  refine FN.mk1 W.t_is_row c_is_row (fun _ _ _ _ _ _ us hl => match us, hl with | [_], _ => rfl) (fun d r h => ?_)
  subst h
  exact SB.one (ST.ret (EV.isi2 (EV.nm 0) W.b.isinstance W.b.list W.b.tuple bv_list bv_tuple kit_list kit_tuple))
theorem seq_of {d : D} {ds : List D} (h : seqD d = some ds) : d.isSeq = true ∧ lenD d = some ds.length := by
  cases d <;> first | (cases h; exact ⟨rfl, rfl⟩) | cases h
theorem seq_no {d : D} (h : seqD d = none) : d.isSeq = false := by
  cases d <;> first | rfl | cases h
def isVec (d : D) : Bool := match seqD d with
  | some ds => (decide ((1 : Int) ≤ ds.length) && decide ((ds.length : Int) ≤ 8)) && ds.all fun e => isFT e (-1000000) 1000000
  | none => false
theorem gd1 {b : Bool} (h : (!true || !b) = true) : b = false := by cases b <;> simp_all
theorem gd2 {b : Bool} (h : (!true || !b) = false) : b = true := by cases b <;> simp_all
theorem all_map {α : Type} (f : α → Bool) (xs : List α) : (xs.map f).all id = xs.all f := by
  rw [List.all_map]
  rfl
theorem ok_is_vector (W : Wd g) : FN g "is_vector" 3 (P1 fun d r => r = .bl (isVec d)) := by
  refine FN.mk1 W.t_is_vector c_is_vector (fun _ _ _ _ _ _ us hl => match us, hl with | [_], _ => rfl) (fun d r h => ?_)
  subst h
  obtain ⟨tk, gS⟩ := W.g_MOST_SIZE
  obtain ⟨tk2, gN⟩ := W.g_MOST_NUMBER
  cases hd : seqD d with
  | none =>
    refine SB.guard (EW.et (EW.or (k1 := !d.isSeq) (k2 := false) (ET.not (ET.val (EV.c1 (ok_is_row W) (EV.nm 0) (by exact rfl)))) (fun z => by rw [seq_no hd] at z; cases z) (fun _ => rfl))) (fun _ => SB.one (ST.ret (EV.to EV.bl ?_))) (fun z => by rw [seq_no hd] at z; cases z)
    unfold isVec
    rw [hd]
  | some ds =>
    obtain ⟨h1, h2⟩ := seq_of hd
    refine SB.guard (EW.et (EW.or (ET.not (ET.val (EV.c1 (ok_is_row W) (EV.nm 0) (by exact rfl)))) (fun _ => EW.or1 (ET.not (ET.chain EV.int (EV.len (EV.nm 0) h2 W.b.len) CS.leI (fun _ => EV.gint gS) (fun _ => CS.leI) (fun _ => rfl)))) (fun _ => rfl))) (fun z => ?_) (fun z => ?_)
    · refine SB.one (ST.ret (EV.to EV.bl ?_))
      unfold isVec
      rw [hd]
      rw [h1] at z
      have z' : (decide ((1 : Int) ≤ ds.length) && decide ((ds.length : Int) ≤ 8)) = false := gd1 z
      show O.dat (.bl false) = O.dat (.bl ((decide ((1 : Int) ≤ ds.length) && decide ((ds.length : Int) ≤ 8)) && _))
      rw [z', Bool.false_and]
    · rw [h1] at z
      have z' : (decide ((1 : Int) ≤ ds.length) && decide ((ds.length : Int) ≤ 8)) = true := gd2 z
      have hlen : ds.length < 100000 := by
        rw [Bool.and_eq_true, decide_eq_true_eq, decide_eq_true_eq] at z'
        omega
      refine SB.one (ST.ret (EV.to (EV.all (bs := ds.map fun e => isFT e (-1000000) 1000000) ?_ W.b.all) ?_))
      · rw [List.map_map]
        exact LC.ev (LC.lM 1 (xs := ds) (f := fun e => e) (own := [("one", 1)]) (by rfl) c_is_vector.nd rfl (EV.nm 0) (by rw [hd, List.map_id']) (Nat.le_refl _) OkM.refl hlen
          (fun y _ M => EV.c3 (ok_is_from_to W) (EV.nm 1) (EV.neg (EV.gint gN)) (EV.gint gN) ⟨-1000000, 1000000, rfl, rfl, rfl⟩))
      · unfold isVec
        rw [hd, all_map]
        show _ = O.dat (.bl ((decide ((1 : Int) ≤ ds.length) && decide ((ds.length : Int) ≤ 8)) && _))
        rw [z', Bool.true_and]
def isMat (d : D) : Bool := match seqD d with
  | some ds => (decide ((1 : Int) ≤ ds.length) && decide ((ds.length : Int) ≤ 8)) && (ds.all isVec && ds.all fun e => decide (((lenD e).getD 0 : Nat) = ((lenD (ds.headD .non)).getD 0 : Nat)))
  | none => false
theorem vec_len {e : D} (h : isVec e = true) : ∃ es, seqD e = some es ∧ lenD e = some es.length := by
  unfold isVec at h
  cases hd : seqD e with
  | none => rw [hd] at h; cases h
  | some es => exact ⟨es, rfl, (seq_of hd).2⟩
theorem gd3 {b c : Bool} (h : (!true || (!b || !c)) = true) : (b && c) = false := by cases b <;> cases c <;> simp_all
theorem gd4 {b c : Bool} (h : (!true || (!b || !c)) = false) : b = true ∧ c = true := by cases b <;> cases c <;> simp_all
theorem ok_is_matrix (W : Wd g) : FN g "is_matrix" 4 (P1 fun d r => r = .bl (isMat d)) := by
  refine FN.mk1 W.t_is_matrix c_is_matrix (fun _ _ _ _ _ _ us hl => match us, hl with | [_], _ => rfl) (fun d r h => ?_)
  subst h
  obtain ⟨tk, gS⟩ := W.g_MOST_SIZE
  cases hd : seqD d with
  | none =>
    refine SB.guard (EW.et (EW.or (k1 := !d.isSeq) (k2 := false) (ET.not (ET.val (EV.c1 (ok_is_row W) (EV.nm 0) (by exact rfl)))) (fun z => by rw [seq_no hd] at z; cases z) (fun _ => rfl))) (fun _ => SB.one (ST.ret (EV.to EV.bl ?_))) (fun z => by rw [seq_no hd] at z; cases z)
    unfold isMat
    rw [hd]
  | some ds =>
    obtain ⟨h1, h2⟩ := seq_of hd
    have hall : ∀ {q1 : Pos} {E : List O} (hlen : (decide ((1 : Int) ≤ ds.length) && decide ((ds.length : Int) ≤ 8)) = true), ds.length < 100000 := fun {_ _} z => by
      rw [Bool.and_eq_true, decide_eq_true_eq, decide_eq_true_eq] at z
      omega
    refine SB.guard (k := !d.isSeq || (!(decide ((1 : Int) ≤ ds.length) && decide ((ds.length : Int) ≤ 8)) || !(ds.map isVec).all id)) (EW.et (EW.or (ET.not (ET.val (EV.c1 (ok_is_row W) (EV.nm 0) (by exact rfl)))) (fun _ => EW.or (ET.not (ET.chain EV.int (EV.len (EV.nm 0) h2 W.b.len) CS.leI (fun _ => EV.gint gS) (fun _ => CS.leI) (fun _ => rfl))) (fun z => EW.or1 (ET.not (ET.val (EV.all ?_ W.b.all)))) (fun _ => rfl)) (fun _ => rfl))) (fun z => ?_) (fun z => ?_)
    · rw [List.map_map]
      exact LC.ev (LC.lM 1 (xs := ds) (f := fun e => e) (own := [("row", 1)]) (by rfl) c_is_matrix.nd rfl (EV.nm 0) (by rw [hd, List.map_id']) (Nat.le_refl _) OkM.refl (hall (q1 := ⟨0, 0, 0, 0⟩) (E := []) (by simpa using z))
          (fun y _ M => EV.c1 (ok_is_vector W) (EV.nm 1) (by exact rfl)))
    · refine SB.one (ST.ret (EV.to EV.bl ?_))
      unfold isMat
      rw [hd]
      rw [h1, all_map] at z
      show O.dat (.bl false) = O.dat (.bl ((decide ((1 : Int) ≤ ds.length) && decide ((ds.length : Int) ≤ 8)) && (ds.all isVec && _)))
      rw [← Bool.and_assoc, gd3 z, Bool.false_and]
    · rw [h1, all_map] at z
      obtain ⟨z1, z2⟩ := gd4 z
      have hl := hall (q1 := ⟨0, 0, 0, 0⟩) (E := []) z1
      have hv : ∀ e ∈ ds, isVec e = true := List.all_eq_true.mp z2
      obtain ⟨e0, r0, rfl⟩ : ∃ e0 r0, ds = e0 :: r0 := by
        cases ds with
        | nil => simp at z1
        | cons e0 r0 => exact ⟨e0, r0, rfl⟩
      obtain ⟨es0, p0, q0⟩ := vec_len (hv e0 List.mem_cons_self)
      have hix : ixD d ((0 : Nat) : Int) = some e0 := by
        cases d <;> first | (cases hd; exact atI_nat rfl) | cases hd
      refine SB.one (ST.ret (EV.to (EV.all (bs := (e0 :: r0).map fun e => decide ((((lenD e).getD 0 : Nat) : Int) = ((es0.length : Nat) : Int))) ?_ W.b.all) ?_))
      · rw [List.map_map]
        refine LC.ev (LC.lM 1 (xs := e0 :: r0) (f := fun e => e) (own := [("row", 1)]) (by rfl) c_is_matrix.nd rfl (EV.nm 0) (by rw [hd, List.map_id']) (Nat.le_refl _) OkM.refl hl (fun y hy M => ?_))
        obtain ⟨es, p1, q1⟩ := vec_len (hv y hy)
        have e1 : (lenD y).getD 0 = es.length := by rw [q1]; rfl
        show EV _ _ _ _ (.dat (.bl (decide ((((lenD y).getD 0 : Nat) : Int) = ((es0.length : Nat) : Int))))) _
        rw [e1]
        exact EV.cm (EV.len (EV.nm 1) q1 W.b.len) (EV.len (EV.ix (EV.nm 0) EV.int hix) q0 W.b.len) CS.eqI
      · unfold isMat
        rw [hd, all_map]
        show _ = O.dat (.bl ((decide ((1 : Int) ≤ ((e0 :: r0).length : Nat)) && decide (((e0 :: r0).length : Int) ≤ 8)) && ((e0 :: r0).all isVec && _)))
        rw [z1, z2, Bool.true_and, Bool.true_and]
        show O.dat (.bl ((e0 :: r0).all _)) = O.dat (.bl ((e0 :: r0).all _))
        congr 3
        funext e
        rw [Bool.eq_iff_iff]
        simp [q0]
        constructor <;> intro h <;> omega
end
/-! ### the mathematics of rows -/
def wd (m : List (List Int)) : Nat := (m.headD []).length
structure Mx (m : List (List Int)) : Prop where
  l1 : 1 ≤ m.length
  l8 : m.length ≤ 8
  w1 : 1 ≤ wd m
  w8 : wd m ≤ 8
  rect : ∀ r ∈ m, r.length = wd m
  num : ∀ r ∈ m, ∀ x ∈ r, -1000000 ≤ x ∧ x ≤ 1000000
structure Vx (v : List Int) : Prop where
  l1 : 1 ≤ v.length
  l8 : v.length ≤ 8
  num : ∀ x ∈ v, -1000000 ≤ x ∧ x ≤ 1000000
def IsV (d : D) (v : List Int) : Prop := Vx v ∧ seqD d = some (v.map .int)
def IsM (d : D) (m : List (List Int)) : Prop := Mx m ∧ ∃ ds, seqD d = some ds ∧ Paired (fun e (r : List Int) => seqD e = some (r.map .int)) ds m
theorem Mx.row {m : List (List Int)} (h : Mx m) {r : List Int} (hr : r ∈ m) : Vx r := ⟨by rw [h.rect r hr]; exact h.w1, by rw [h.rect r hr]; exact h.w8, h.num r hr⟩
theorem paired_tM : ∀ m : List (List Int), Paired (fun e (r : List Int) => seqD e = some (r.map D.int)) (m.map tV) m
  | [] => .nil
  | _ :: m => .cons rfl (paired_tM m)
theorem paired_lM : ∀ m : List (List Int), Paired (fun e (r : List Int) => seqD e = some (r.map D.int)) (m.map lV) m
  | [] => .nil
  | _ :: m => .cons rfl (paired_lM m)
theorem isM_t {m : List (List Int)} (h : Mx m) : IsM (tM m) m := ⟨h, _, rfl, paired_tM m⟩
theorem isM_l {m : List (List Int)} (h : Mx m) : IsM (lM m) m := ⟨h, _, rfl, paired_lM m⟩
theorem isV_t {v : List Int} (h : Vx v) : IsV (tV v) v := ⟨h, rfl⟩
theorem isV_l {v : List Int} (h : Vx v) : IsV (lV v) v := ⟨h, rfl⟩
def dot (xs ys : List Int) : Int := ((xs.zip ys).map fun u => u.1 * u.2).sum
def flip (m : List (List Int)) : List (List Int) := (List.range (wd m)).map fun j => m.map fun r => r.getD j 0
def mulM (m n : List (List Int)) : List (List Int) := m.map fun r => (flip n).map fun c => dot r c
def ledBy (v : List Int) (m : List (List Int)) : List Int := (List.range (wd m)).map fun j => ((v.zip m).map fun u => u.1 * u.2.getD j 0).sum
def ontoM (m : List (List Int)) (v : List Int) : List Int := m.map fun r => dot r v
def unitM (n : Nat) : List (List Int) := (List.range n).map fun i => (List.range n).map fun j => if j = i then 1 else 0
def manyM (m : List (List Int)) (k : Int) : List (List Int) := m.map fun r => r.map fun x => k * x
def addM (m n : List (List Int)) : List (List Int) := (m.zip n).map fun u => (u.1.zip u.2).map fun w => w.1 + w.2
def besM (m n : List (List Int)) : List (List Int) := (m.zip n).map fun u => u.1 ++ u.2
def gcdL (v : List Int) : Int := v.foldl (fun a x => (Nat.gcd a.natAbs x.natAbs : Nat)) 0
def MulOk (a b : List (List Int)) : Prop := ∀ r ∈ a, ∀ x ∈ r, ∀ q ∈ b, ∀ y ∈ q, IntMulOk x y
theorem getD_of_lt {r : List Int} {j : Nat} (h : j < r.length) : r[j]? = some (r.getD j 0) := by
  rw [List.getD_eq_getElem?_getD, List.getElem?_eq_getElem h]
  rfl
theorem ix_tV {r : List Int} {j : Nat} (h : j < r.length) : ixD (tV r) ((j : Nat) : Int) = some (.int (r.getD j 0)) := by
  refine atI_nat ?_
  rw [List.getElem?_map, getD_of_lt h]
  rfl
theorem ix_lV {r : List Int} {j : Nat} (h : j < r.length) : ixD (lV r) ((j : Nat) : Int) = some (.int (r.getD j 0)) := by
  refine atI_nat ?_
  rw [List.getElem?_map, getD_of_lt h]
  rfl
theorem ix_tM {m : List (List Int)} {j : Nat} (h : j < m.length) : ixD (tM m) ((j : Nat) : Int) = some (tV (m.getD j [])) := by
  refine atI_nat ?_
  rw [List.getElem?_map, List.getElem?_eq_getElem h, List.getD_eq_getElem?_getD, List.getElem?_eq_getElem h]
  rfl
theorem ix_lM {m : List (List Int)} {j : Nat} (h : j < m.length) : ixD (lM m) ((j : Nat) : Int) = some (lV (m.getD j [])) := by
  refine atI_nat ?_
  rw [List.getElem?_map, List.getElem?_eq_getElem h, List.getD_eq_getElem?_getD, List.getElem?_eq_getElem h]
  rfl
theorem ix_tM0 {m : List (List Int)} (h : m ≠ []) : ixD (tM m) (0 : Int) = some (tV (m.headD [])) := by
  cases m with
  | nil => exact absurd rfl h
  | cons r q => exact ix_tM (j := 0) (by simp)
theorem len_tV {r : List Int} : lenD (tV r) = some r.length := by show some (r.map D.int).length = _; rw [List.length_map]
theorem len_tM {m : List (List Int)} : lenD (tM m) = some m.length := by show some (m.map tV).length = _; rw [List.length_map]
theorem len_lV {r : List Int} : lenD (lV r) = some r.length := by show some (r.map D.int).length = _; rw [List.length_map]
theorem len_lM {m : List (List Int)} : lenD (lM m) = some m.length := by show some (m.map lV).length = _; rw [List.length_map]
section
variable {g : Pg}
theorem tM_map {α : Type} {f : α → List Int} {xs : List α} : tM (xs.map f) = .tup (xs.map fun a => .tup ((f a).map D.int)) := by
  show D.tup _ = D.tup _
  rw [List.map_map]
  rfl
theorem tM_map2 {α β : Type} {f : α → β → Int} {ys : α → List β} {xs : List α} : tM (xs.map fun a => (ys a).map (f a)) = .tup (xs.map fun a => .tup ((ys a).map fun b => .int (f a b))) := by
  rw [tM_map]
  show D.tup _ = D.tup _
  congr 2
  funext a
  show D.tup _ = D.tup _
  rw [List.map_map]
  rfl
theorem tV_map {α : Type} {f : α → Int} {xs : List α} : tV (xs.map f) = .tup (xs.map fun a => .int (f a)) := by
  show D.tup _ = D.tup _
  rw [List.map_map]
  rfl
theorem ok_flipped (W : Wd g) : FN g "flipped" 1 (P1 fun d r => ∃ m, d = tM m ∧ m ≠ [] ∧ (∀ q ∈ m, q.length = wd m) ∧ m.length < 100000 ∧ wd m < 100000 ∧ r = tM (flip m)) := by
  refine FN.mk1 W.t_flipped c_flipped (fun _ _ _ _ _ _ us hl => match us, hl with | [_], _ => rfl) (fun d r h => ?_)
  obtain ⟨m, rfl, h0, hr, hl, hw, rfl⟩ := h
  have e : tM (flip m) = .tup ((List.range (wd m)).map fun j => .tup (m.map fun q => .int (q.getD j 0))) := by
    unfold flip
    exact tM_map2
  rw [e]
  refine SB.one (ST.ret (EV.tuple (LC.ev (LC.lR 1 (j := ((wd m : Nat) : Int)) (g := fun j => .tup (m.map fun q => .int (q.getD j 0))) (own := [("at", 1)]) (by rfl) c_flipped.nd rfl (EV.len (EV.ix (EV.nm 0) EV.int (ix_tM0 h0)) len_tV W.b.len) W.b.range (Nat.le_refl _) OkM.refl (by omega) (fun i hi M => ?_))) rfl W.b.tuple))
  exact EV.tuple (LC.ev (LC.lM 2 (xs := m) (f := tV) (g := fun q => .int (q.getD i 0)) (own := [("row", 2)]) (by rfl) c_flipped.nd rfl (EV.nm 0) rfl (Nat.le_refl _) OkM.refl hl (fun q hq M => EV.ix (EV.nm 2) (EV.nm 1) (ix_tV (by rw [hr q hq]; omega))))) rfl W.b.tuple
theorem flip_len {m : List (List Int)} {c : List Int} (h : c ∈ flip m) : c.length = m.length := by
  unfold flip at h
  obtain ⟨j, _, rfl⟩ := List.mem_map.mp h
  exact List.length_map _
theorem flip_mem {m : List (List Int)} {c : List Int} (hr : ∀ q ∈ m, q.length = wd m) (h : c ∈ flip m) {y : Int} (hy : y ∈ c) : ∃ q ∈ m, y ∈ q := by
  unfold flip at h
  obtain ⟨j, hj, rfl⟩ := List.mem_map.mp h
  obtain ⟨q, hq, rfl⟩ := List.mem_map.mp hy
  have hlt : j < q.length := by rw [hr q hq]; exact List.mem_range.mp hj
  exact ⟨q, hq, List.mem_of_getElem? (getD_of_lt hlt)⟩
theorem flip_length {m : List (List Int)} : (flip m).length = wd m := by unfold flip; rw [List.length_map, List.length_range]
theorem ok_unit (W : Wd g) : FN g "unit" 1 (P1 fun d r => ∃ n : Nat, n < 100000 ∧ d = .int (n : Int) ∧ r = tM (unitM n)) := by
  refine FN.mk1 W.t_unit c_unit (fun _ _ _ _ _ _ us hl => match us, hl with | [_], _ => rfl) (fun d r h => ?_)
  obtain ⟨n, hn, rfl, rfl⟩ := h
  have e : tM (unitM n) = .tup ((List.range n).map fun i => .tup ((List.range n).map fun j => .int (if decide (((j : Nat) : Int) = ((i : Nat) : Int)) then 1 else 0))) := by
    unfold unitM
    simp only [tM, tV, List.map_map]
    congr 2
    funext i
    show D.tup _ = D.tup _
    rw [List.map_map]
    congr 2
    funext j
    show D.int _ = D.int _
    congr 1
    show (if j = i then (1 : Int) else 0) = _
    by_cases h : j = i
    · subst h; simp
    · rw [if_neg h, if_neg]; simp; omega
  rw [e]
  refine SB.one (ST.ret (EV.tuple (LC.ev (LC.lR 1 (j := ((n : Nat) : Int)) (g := fun i => .tup ((List.range n).map fun j => .int (if decide (((j : Nat) : Int) = ((i : Nat) : Int)) then 1 else 0))) (own := [("row", 1)]) (by rfl) c_unit.nd rfl (EV.nm 0) W.b.range (Nat.le_refl _) OkM.refl (by omega) (fun i hi M => ?_))) rfl W.b.tuple))
  exact EV.tuple (LC.ev (LC.lR 2 (j := ((n : Nat) : Int)) (g := fun j => .int (if decide (((j : Nat) : Int) = ((i : Nat) : Int)) then 1 else 0)) (own := [("at", 2)]) (by rfl) c_unit.nd rfl (EV.nm 0) W.b.range (Nat.le_refl _) OkM.refl (by omega) (fun j hj M => EV.intB (EV.cm (EV.nm 2) (EV.nm 1) CS.eqI) W.b.int))) rfl W.b.tuple
theorem isFT_of {x : Int} (h : -1000000 ≤ x ∧ x ≤ 1000000) : isFT (.int x) (-1000000) 1000000 = true := by
  show (decide _ && decide _) = true
  rw [decide_eq_true h.1, decide_eq_true h.2]
  rfl
theorem len_ok {n : Nat} (h1 : 1 ≤ n) (h8 : n ≤ 8) : (decide ((1 : Int) ≤ n) && decide ((n : Int) ≤ 8)) = true := by
  rw [decide_eq_true (by omega), decide_eq_true (by omega)]
  rfl
theorem isVec_of {d : D} {v : List Int} (h : IsV d v) : isVec d = true := by
  unfold isVec
  rw [h.2]
  show ((decide ((1 : Int) ≤ (v.map D.int).length) && decide (((v.map D.int).length : Int) ≤ 8)) && (v.map D.int).all _) = true
  rw [List.length_map, len_ok h.1.l1 h.1.l8, Bool.true_and, List.all_map, List.all_eq_true]
  exact fun x hx => isFT_of (h.1.num x hx)
theorem paired_mem {α β : Type} {R : α → β → Prop} : ∀ {xs : List α} {ys : List β}, Paired R xs ys → ∀ x ∈ xs, ∃ y ∈ ys, R x y
  | _, _, .nil, x, hx => by simp at hx
  | _, _, .cons h r, x, hx => by
    rcases List.mem_cons.mp hx with rfl | hx
    · exact ⟨_, List.mem_cons_self, h⟩
    · obtain ⟨y, h1, h2⟩ := paired_mem r x hx
      exact ⟨y, List.mem_cons_of_mem _ h1, h2⟩
theorem len_seq {d : D} {ds : List D} (h : seqD d = some ds) : lenD d = some ds.length := (seq_of h).2
theorem isMat_of {d : D} {m : List (List Int)} (h : IsM d m) : isMat d = true := by
  obtain ⟨hm, ds, hd, hp⟩ := h
  have hl : ds.length = m.length := hp.length
  have e1 : ds.all isVec = true := List.all_eq_true.mpr fun e he => by
    obtain ⟨r, hr, hs⟩ := paired_mem hp e he
    exact isVec_of ⟨hm.row hr, hs⟩
  have hlen : ∀ e ∈ ds, (lenD e).getD 0 = wd m := fun e he => by
    obtain ⟨r, hr, hs⟩ := paired_mem hp e he
    rw [len_seq hs, List.length_map, hm.rect r hr]
    rfl
  unfold isMat
  rw [hd]
  show ((decide ((1 : Int) ≤ ds.length) && decide ((ds.length : Int) ≤ 8)) && (ds.all isVec && ds.all _)) = true
  rw [hl, len_ok hm.l1 hm.l8, e1, Bool.true_and, Bool.true_and, List.all_eq_true]
  intro e he
  have h0 : (lenD (ds.headD .non)).getD 0 = wd m := by
    cases ds with
    | nil => simp at he
    | cons e0 r0 => exact hlen e0 List.mem_cons_self
  rw [hlen e he, h0]
  exact decide_eq_true rfl
def tupD (e : D) : D := .tup ((seqD e).getD [])
theorem paired_tup : ∀ {ds : List D} {m : List (List Int)}, Paired (fun e (r : List Int) => seqD e = some (r.map D.int)) ds m → ds.map tupD = m.map tV
  | _, _, .nil => rfl
  | _, _, .cons h r => by
    rw [List.map_cons, List.map_cons, paired_tup r]
    show D.tup _ :: _ = _
    rw [h]
    rfl
theorem Mx.ne {m : List (List Int)} (h : Mx m) : m ≠ [] := fun e => by
  have := h.l1
  rw [e] at this
  exact absurd this (by decide)
theorem ok_checked_matrix (W : Wd g) : FN g "checked_matrix" 5 (P1 fun d r => ∃ m, IsM d m ∧ r = tM m) := by
  refine FN.mk1 W.t_checked_matrix c_checked_matrix (fun _ _ _ _ _ _ us hl => match us, hl with | [_], _ => rfl) (fun d r h => ?_)
  obtain ⟨m, hm, rfl⟩ := h
  have hM := isMat_of hm
  obtain ⟨hx, ds, hd, hp⟩ := hm
  have hl : ds.length < 100000 := by
    have := hx.l8
    rw [hp.length]
    omega
  have e : tM m = .tup (ds.map tupD) := by rw [paired_tup hp]
  rw [e]
  refine SB.cons (ST.no (ET.to (ET.not (ET.val (EV.c1 (ok_is_matrix W) (EV.nm 0) (by exact rfl)))) (by rw [hM]; rfl)) SB.nil) (SB.one (ST.ret (EV.tuple (LC.ev (LC.lM 1 (xs := ds) (f := fun e => e) (g := tupD) (own := [("row", 1)]) (by rfl) c_checked_matrix.nd rfl (EV.nm 0) (by rw [hd, List.map_id']) (Nat.le_refl _) OkM.refl hl (fun y hy M => ?_))) rfl W.b.tuple)))
  obtain ⟨r, _, hr⟩ := paired_mem hp y hy
  have e2 : tupD y = .tup (r.map D.int) := by
    show D.tup _ = _
    rw [hr]
    rfl
  show EV _ _ _ _ (.dat (tupD y)) _
  rw [e2]
  exact EV.tuple (EV.nm 1) hr W.b.tuple
theorem Mx.sm {m : List (List Int)} (h : Mx m) : m.length < 100000 ∧ wd m < 100000 ∧ ∀ q ∈ m, q.length < 100000 := by
  have := h.l8
  have := h.w8
  exact ⟨by omega, by omega, fun q hq => by rw [h.rect q hq]; omega⟩
def tgOf : Stmt → Expr
  | .For t _ _ _ _ => t
  | _ => .Constant .none 0 ⟨0, 0, 0, 0⟩
theorem mem_getD {α : Type} {m : List α} {a0 : α} {i : Nat} (hi : i < m.length) : m.getD i a0 ∈ m := by
  rw [List.getD_eq_getElem?_getD, List.getElem?_eq_getElem hi]
  exact List.getElem_mem hi
def optN : Option Nat → D
  | some p => .int (p : Int)
  | none => .non
def leadF (v : List Int) : Option Nat := v.findIdx? fun x => !decide (x = 0)
theorem ok_lead (W : Wd g) : FN g "lead" 1 (P1 fun d r => ∃ v, d = tV v ∧ r = optN (leadF v)) := by
  refine FN.mk1 W.t_lead c_lead (fun _ _ _ _ _ _ us hl => match us, hl with | [_], _ => rfl) (fun d r h => ?_)
  obtain ⟨v, rfl, rfl⟩ := h
  have hlen : (v.map D.int).length = v.length := List.length_map _
  have hat : ∀ i, i < v.length → atN (v.map D.int) i = .dat (.tup [.int (i : Int), .int (v.getD i 0)]) := fun i hi => by
    unfold atN
    rw [List.getD_eq_getElem?_getD, List.getElem?_map, getD_of_lt hi]
    rfl
  have step : ∀ (i : Nat) (hi : i < v.length), EG (mkC g n_lead s_lead 0) (tgOf ((defBody s_lead).getD 0 (.Pass ⟨0, 0, 0, 0⟩))) (atN (v.map D.int) i) [.dat (tV v), .no, .no] [] [.dat (tV v), .dat (.int (i : Int)), .dat (.int (v.getD i 0))] [] := fun i hi => by
    rw [hat i hi]
    exact EG.tup (ds := [.int (i : Int), .int (v.getD i 0)]) (EGs.cons (EG.nm 1 c_lead.nd) (EGs.cons (EG.nm 2 c_lead.nd) EGs.nil))
  cases hf : leadF v with
  | none =>
    have hz : ∀ i, i < v.length → v.getD i 0 = 0 := fun i hi => by
      have := List.findIdx?_eq_none_iff.mp hf (v.getD i 0) (mem_getD hi)
      simpa using this
    refine SB.cons (ST.for (m := v.length) (n := v.length) (E_ := fun _ => [.dat (tV v), .no, .no]) (M_ := fun _ => []) (hlen ▸ EI.enum (EV.nm 0) W.b.enumerate) Fg.refl rfl (Nat.le_refl _) (fun _ _ => True.intro) (fun i hi => ⟨_, _, _, step i hi, ?_, .inl (SB.one (ST.no (ET.to (ET.cm (EV.nm 2) EV.int CS.neI) (by rw [hz i hi]; rfl)) SB.nil))⟩) (.inl ⟨rfl, rfl⟩)) (SB.one (ST.ret EV.non))
    exact Fg.cons (Fg.no (Fg.no Fg.nil))
  | some p =>
    obtain ⟨hp, h1, h2⟩ := List.findIdx?_eq_some_iff_getElem.mp hf
    have hz : ∀ i, i < p → v.getD i 0 = 0 := fun i hi => by
      have := h2 i hi
      rw [List.getD_eq_getElem?_getD, List.getElem?_eq_getElem (by omega)]
      simpa using this
    have hp0 : (!decide (v.getD p 0 = 0)) = true := by
      rw [List.getD_eq_getElem?_getD, List.getElem?_eq_getElem hp]
      exact h1
    refine SB.stop (ST.for (m := p) (n := v.length) (E_ := fun _ => [.dat (tV v), .no, .no]) (M_ := fun _ => []) (hlen ▸ EI.enum (EV.nm 0) W.b.enumerate) Fg.refl rfl (Nat.le_of_lt hp) (fun _ _ => True.intro) (fun i hi => ⟨_, _, _, step i (by omega), ?_, .inl (SB.one (ST.no (ET.to (ET.cm (EV.nm 2) EV.int CS.neI) (by rw [hz i hi]; rfl)) SB.nil))⟩) (.inr ⟨hp, _, _, step p hp, .inl ⟨_, _, SB.one (ST.yes (ET.to (ET.cm (EV.nm 2) EV.int CS.neI) hp0) (SB.one (ST.ret (EV.nm 1)))), rfl⟩⟩))
    exact Fg.cons (Fg.no (Fg.no Fg.nil))
end
end
section
section
variable {g : Pg}
def thenOf : Stmt → List Stmt
  | .If _ y _ _ => y
  | _ => []
def ifOf : Stmt → Expr
  | .If c _ _ _ => c
  | _ => .Constant .none 0 ⟨0, 0, 0, 0⟩
def bodyOf : Stmt → List Stmt
  | .For _ _ b _ _ => b
  | _ => []
theorem least {P : Nat → Prop} : ∀ m, P m → ∃ k, k ≤ m ∧ P k ∧ ∀ j, j < k → ¬ P j := fun m => by
  induction m using Nat.strongRecOn with
  | _ m ih =>
    intro h
    by_cases hk : ∃ j, j < m ∧ P j
    · obtain ⟨j, hj, hp⟩ := hk
      obtain ⟨k, h1, h2, h3⟩ := ih j hj hp
      exact ⟨k, by omega, h2, h3⟩
    · exact ⟨m, Nat.le_refl _, h, fun j hj hp => hk ⟨j, hj, hp⟩⟩
def stp (last : Int) (r : List Int) : Option Int := match leadF r with
  | none => some r.length
  | some p => if (p : Int) ≤ last then none else some p
def lasts (m : List (List Int)) : Nat → Int
  | 0 => -1
  | i + 1 => (stp (lasts m i) (m.getD i [])).getD 0
def echB (m : List (List Int)) : Bool := (List.range m.length).all fun i => (stp (lasts m i) (m.getD i [])).isSome
end
/-! ### Work -/
section
variable {g : Pg}
structure WS where
  r : List (List Int)
  t : List (List Int)
  b : List (List Int)
def swapL (l : List (List Int)) (i j : Nat) : List (List Int) := (l.set i (l.getD j [])).set j (l.getD i [])
def negL (l : List (List Int)) (i : Nat) : List (List Int) := l.set i ((l.getD i []).map fun x => -x)
def lessV (v : List Int) (k : Int) (w : List Int) : List Int := (v.zip w).map fun u => u.1 - k * u.2
def takeL (l : List (List Int)) (i : Nat) (k : Int) (j : Nat) : List (List Int) := l.set i (lessV (l.getD i []) k (l.getD j []))
def WS.swap (s : WS) (i j : Nat) : WS := ⟨swapL s.r i j, swapL s.t i j, swapL s.b i j⟩
def WS.turn (s : WS) (i : Nat) : WS := ⟨negL s.r i, negL s.t i, negL s.b i⟩
def WS.take (s : WS) (i : Nat) (k : Int) (j : Nat) : WS := ⟨takeL s.r i k j, takeL s.t i k j, takeL s.b j (-k) i⟩
abbrev cel (m : List (List Int)) : Option (List O) := some ((m.map lV).map O.dat)
abbrev wC (s : WS) : Mem := [cel s.r, cel s.t, cel s.b]
abbrev F0 : List (Str × Nat) := [("rows", 0), ("there", 1), ("back", 2)]
abbrev oW : O := .obj Ca F0
theorem lowW {n : Nat} {s : WS} : LowM n (wC s) := LowM.dat (LowM.dat (LowM.dat LowM.nil))
theorem mixW {s s' : WS} : Mix [0, 1, 2] (wC s) (wC s) (wC s') (wC s') := by
  refine ⟨rfl, by decide, rfl, fun i k h => ?_, fun k os h => ?_⟩
  · match i, h with
    | 0, h => cases h; exact congrArg (fun q => some (some q)) (ren_dat _).symm
    | 1, h => cases h; exact congrArg (fun q => some (some q)) (ren_dat _).symm
    | 2, h => cases h; exact congrArg (fun q => some (some q)) (ren_dat _).symm
    | n + 3, h => simp at h
  · match k, h with
    | 0, h => cases h; exact .inr ⟨0, _, rfl, .inl (by decide), rfl, (ren_dat _).symm⟩
    | 1, h => cases h; exact .inr ⟨1, _, rfl, .inl (by decide), rfl, (ren_dat _).symm⟩
    | 2, h => cases h; exact .inr ⟨2, _, rfl, .inl (by decide), rfl, (ren_dat _).symm⟩
    | n + 3, h => simp at h
theorem mixWn {s : WS} : Mix [] [] [] (wC s) (wC s) := by
  refine ⟨rfl, by decide, rfl, fun i k h => by simp at h, fun k os h => ?_⟩
  match k, h with
    | 0, h => cases h; exact .inr ⟨0, _, rfl, .inr (by decide), rfl, (ren_dat _).symm⟩
    | 1, h => cases h; exact .inr ⟨1, _, rfl, .inr (by decide), rfl, (ren_dat _).symm⟩
    | 2, h => cases h; exact .inr ⟨2, _, rfl, .inr (by decide), rfl, (ren_dat _).symm⟩
    | n + 3, h => simp at h
theorem EV.methW {C : Cc} {E : List O} {s s' : WS} {a e : Expr} {es : List Expr} {apos pos : Pos} {m : Str} {kf : Nat} {R : Rel} {ds : List D} {d : D} (F : MT C.g Ca m kf R) (ho : EV C a E (wC s) oW (wC s)) (ha : EA C (e :: es) E (wC s) (ds.map .dat) (wC s)) (cl : Cls C.g.K Ca) (hR : R (oW :: ds.map .dat) (wC s) (.dat d) (wC s')) (hl : F0.lookup m = none := by rfl) (hk : Nat.ble kf C.k = true := by rfl)
    (hst : ∀ env, starEach (e :: es) env = (false, eval e env) :: starEach es env := by intro _; rfl) (hpl : ∀ env, (backTo pos (starEach es env)).any (·.1) = false := by intro _; rfl)
    (ht : ∀ env, ∃ pl : Sem Bool, eval (.Call (.Attribute a m apos) (e :: es) [] pos) env = (do
      let ov ← eval a env
      standAt apos.atName
      let (f, first) ← holding [ov] (getMethod ov m pl)
      callWith pos f first (backTo pos (starEach (e :: es) env)) (backToKw pos (keywordEach [] env))) := by intro _; exact ⟨_, rfl⟩) :
    EV C (.Call (.Attribute a m apos) (e :: es) [] pos) E (wC s) (.dat d) (wC s') :=
  EV.meth (ι := [0, 1, 2]) F ho ha cl hR (by show _ = oW :: _; rw [ren_dat]) mixW hl hk hst hpl ht
theorem EV.callW {C : Cc} {E : List O} {s s' : WS} {e : Expr} {es : List Expr} {p pos : Pos} {x : Str} {kf : Nat} {R : Rel} {ds : List D} {d : D} (F : FN C.g x kf R) (ha : EA C (e :: es) E (wC s) (oW :: ds.map .dat) (wC s)) (hR : R (oW :: ds.map .dat) (wC s) (.dat d) (wC s')) (hk : Nat.ble kf C.k = true := by rfl)
    (hg : C.sc.names.lookup x = some .globalImplicit := by rfl) (hdb : (x == ("__debug__" : Str)) = false := by decide) (he : ∀ env, starEach (e :: es) env = (false, eval e env) :: starEach es env := by intro _; rfl) (hpl : ∀ env, (backTo pos (starEach es env)).any (·.1) = false := by intro _; rfl) :
    EV C (.Call (.Name x p) (e :: es) [] pos) E (wC s) (.dat d) (wC s') := EV.callG (ι := [0, 1, 2]) F ha hR (by show _ = oW :: _; rw [ren_dat]) mixW hk hg hdb he hpl
/-- attributes -/
theorem EV.rows {C : Cc} {E : List O} {M : Mem} {e : Expr} {pos : Pos} (W : Wd C.g) (h : EV C e E M oW M) (hb : ∀ env, attributeBase e "rows" env (eval e env) = eval e env := by intro _; rfl) : EV C (.Attribute e "rows" pos) E M (.adr 0) M := EV.fld h W.cls_Work W.no_rows rfl hb
theorem EV.there {C : Cc} {E : List O} {M : Mem} {e : Expr} {pos : Pos} (W : Wd C.g) (h : EV C e E M oW M) (hb : ∀ env, attributeBase e "there" env (eval e env) = eval e env := by intro _; rfl) : EV C (.Attribute e "there" pos) E M (.adr 1) M := EV.fld h W.cls_Work W.no_there rfl hb
theorem EV.back {C : Cc} {E : List O} {M : Mem} {e : Expr} {pos : Pos} (W : Wd C.g) (h : EV C e E M oW M) (hb : ∀ env, attributeBase e "back" env (eval e env) = eval e env := by intro _; rfl) : EV C (.Attribute e "back" pos) E M (.adr 2) M := EV.fld h W.cls_Work W.no_back rfl hb
theorem cel_at {m : List (List Int)} {i : Nat} (h : i < m.length) : atI ((m.map lV).map O.dat) (i : Int) = some (.dat (lV (m.getD i []))) := by
  refine atI_nat ?_
  rw [List.getElem?_map, List.getElem?_map, List.getElem?_eq_getElem h, List.getD_eq_getElem?_getD, List.getElem?_eq_getElem h]
  rfl
theorem cel_len {m : List (List Int)} : ((m.map lV).map O.dat).length = m.length := by rw [List.length_map, List.length_map]
theorem cel_ixN {m : List (List Int)} {i : Nat} (h : i < m.length) : ixN ((m.map lV).map O.dat).length (i : Int) = some i := by
  rw [cel_len]
  unfold ixN
  simp
  omega
theorem cel_set {m : List (List Int)} {i : Nat} {v : List Int} : (some (((m.map lV).map O.dat).set i (.dat (lV v))) : Option (List O)) = cel (m.set i v) := by
  show _ = some (((m.set i v).map lV).map O.dat)
  rw [List.map_set, List.map_set]
theorem ok_less_multiple (W : Wd g) : FN g "less_multiple" 1 (P3 fun d e f r => ∃ v k w, d = lV v ∧ e = .int k ∧ f = lV w ∧ v.length < 100000 ∧ (∀ y ∈ w, IntMulOk k y) ∧ r = lV (lessV v k w)) := by
  refine FN.mk3 W.t_less_multiple c_less_multiple (fun _ _ _ _ _ _ us hl => match us, hl with | [_, _, _], _ => rfl) (fun d e f r h => ?_)
  obtain ⟨v, k, w, rfl, rfl, rfl, hz, hm, rfl⟩ := h
  refine SB.one (ST.ret (EV.to (LC.ev (LC.lZ 3 4 (xs := v) (ys := w) (f1 := D.int) (f2 := D.int) (g := fun x y => .int (x - k * y)) (own := [("one", 3), ("other", 4)]) (by rfl) c_less_multiple.nd rfl (EV.nm 0) (EV.nm 2) (.inr ⟨rfl, rfl⟩) W.b.zip (Nat.le_refl _) OkM.refl hz
    (fun x _ y hy M => EV.sub (EV.nm 3) (EV.mul (EV.nm 1) (EV.nm 4) (hm y hy))))) ?_))
  show O.dat (.lst _) = O.dat (.lst _)
  unfold lessV
  rw [List.map_map]
  rfl
end
section
variable {g : Pg}
def swapR : Rel := fun os M o M' => ∃ (s : WS) (i j : Nat), i < s.r.length ∧ j < s.r.length ∧ s.t.length = s.r.length ∧ s.b.length = s.r.length ∧ os = [oW, .dat (.int (i : Int)), .dat (.int (j : Int))] ∧ M = wC s ∧ o = .dat .non ∧ M' = wC (s.swap i j)
theorem sw_none {a b c d x1 x2 y1 y2 : Expr} {p q u v r1 r2 : Pos} {k k2 : Nat} (env : Env) : swappedStores [.Tuple [.Subscript a b p, .Subscript c d q] k r1] (.Tuple [.Subscript x1 x2 u, .Subscript y1 y2 v] k2 r2) env = pure none := by
  unfold swappedStores
  cases h : env.blockKind <;> simp <;> rfl
/-- one list of three -/
theorem swap_one {n : Nat} {m : List (List Int)} {i j : Nat} {M M2 : Mem} {k : Nat} (hi : i < m.length) (hj : j < m.length) (hm : M[n]? = some (cel m)) (hM : M2 = M.set n (cel (swapL m i j))) :
    SB (mkCd g n_Work_swap s_Work_swap k none) (bodyOf ((defBody s_Work_swap).getD 0 (.Pass ⟨0, 0, 0, 0⟩))) [oW, .dat (.int (i : Int)), .dat (.int (j : Int)), .adr n] M (.nx [oW, .dat (.int (i : Int)), .dat (.int (j : Int)), .adr n] M2) := by
  have hn : n < M.length := (List.getElem?_eq_some_iff.mp hm).1
  refine SB.one (ST.to (ST.asg (EV.tup (ds := [lV (m.getD j []), lV (m.getD i [])]) (EA.cons (EV.ixC (EV.nm 3) (EV.nm 2) hm (cel_at hj)) (EA.cons (EV.ixC (EV.nm 3) (EV.nm 1) hm (cel_at hi)) EA.nil)) (by simp))
    (EG.tup (ds := [lV (m.getD j []), lV (m.getD i [])]) (EGs.cons (EG.sub (EV.nm 3) (EV.nm 1) hm (cel_ixN hi)) (EGs.cons (EG.sub (ps := (((m.set i (m.getD j [])).map lV).map O.dat)) (EV.nm 3) (EV.nm 2) (by rw [List.getElem?_set_self hn, cel_set]) (by rw [cel_len, List.length_set]; have := cel_ixN hj; rw [cel_len] at this; exact this)) EGs.nil))) (hw := fun env => sw_none env)) ?_)
  subst hM
  rw [cel_set, List.set_set, cel_set]
  rfl
theorem ok_swap (W : Wd g) : MT g Ca "swap" 1 swapR := by
  refine MT.mk W.m_swap c_Work_swap (fun _ _ _ _ _ _ us hl => match us, hl with | [_, _, _], _ => rfl) (fun os M o M' h => ?_) (fun os M o M' h => ?_)
  · obtain ⟨s, i, j, _, _, _, _, rfl, _⟩ := h
    rfl
  obtain ⟨s, i, j, hi, hj, ht, hb, rfl, rfl, rfl, rfl⟩ := h
  refine ⟨Nat.le_refl _, True.intro, lowW, .inr ⟨rfl, [oW, .dat (.int (i : Int)), .dat (.int (j : Int)), .no], [], ?_⟩⟩
  let MM : Nat → Mem := fun n => match n with
    | 0 => wC s
    | 1 => wC ⟨swapL s.r i j, s.t, s.b⟩
    | 2 => wC ⟨swapL s.r i j, swapL s.t i j, s.b⟩
    | _ => wC (s.swap i j)
  refine SB.one (ST.forN 3 (n := 3) (E_ := fun _ => [oW, .dat (.int (i : Int)), .dat (.int (j : Int)), .no]) (M_ := MM) (EI.disp (EA.cons (EV.rows W (EV.nm 0)) (EA.cons (EV.there W (EV.nm 0)) (EA.cons (EV.back W (EV.nm 0)) EA.nil))) (by decide)) Fg.refl rfl (fun _ _ => True.intro) c_Work_swap.nd (fun n hn => ?_))
  match n, hn with
  | 0, _ => exact ⟨_, Fg.cons (Fg.cons (Fg.cons (Fg.no Fg.nil))), swap_one hi hj rfl rfl⟩
  | 1, _ => exact ⟨_, Fg.cons (Fg.cons (Fg.cons (Fg.no Fg.nil))), swap_one (m := s.t) (by omega) (by omega) rfl rfl⟩
  | 2, _ => exact ⟨_, Fg.cons (Fg.cons (Fg.cons (Fg.no Fg.nil))), swap_one (m := s.b) (by omega) (by omega) rfl rfl⟩
def turnR : Rel := fun os M o M' => ∃ (s : WS) (i : Nat), i < s.r.length ∧ s.t.length = s.r.length ∧ s.b.length = s.r.length ∧ (∀ q ∈ s.r ++ (s.t ++ s.b), q.length < 100000) ∧ os = [oW, .dat (.int (i : Int))] ∧ M = wC s ∧ o = .dat .non ∧ M' = wC (s.turn i)
theorem turn_one {n : Nat} {m : List (List Int)} {i : Nat} {M M2 : Mem} {k : Nat} (hi : i < m.length) (hz : ∀ q ∈ m, q.length < 100000) (hm : M[n]? = some (cel m)) (hM : M2 = M.set n (cel (negL m i))) :
    SB (mkCd g n_Work_turn s_Work_turn k none) (bodyOf ((defBody s_Work_turn).getD 0 (.Pass ⟨0, 0, 0, 0⟩))) [oW, .dat (.int (i : Int)), .adr n, .no] M (.nx [oW, .dat (.int (i : Int)), .adr n, .no] M2) := by
  have hn : n < M.length := (List.getElem?_eq_some_iff.mp hm).1
  have hr : m.getD i [] ∈ m := mem_getD hi
  refine SB.one (ST.to (ST.asg (LC.ev (LC.lM 3 (xs := m.getD i []) (f := D.int) (g := fun x => .int (-x)) (own := [("one", 3)]) (by rfl) c_Work_turn.nd rfl (EV.ixC (EV.nm 2) (EV.nm 1) hm (cel_at hi)) rfl (Nat.le_refl _) OkM.refl (hz _ hr) (fun y _ M => EV.neg (EV.nm 3)))) (EG.sub (EV.nm 2) (EV.nm 1) hm (cel_ixN hi))) ?_)
  have e : (D.lst ((m.getD i []).map fun x => D.int (-x))) = lV ((m.getD i []).map fun x => -x) := by
    show D.lst _ = D.lst _
    rw [List.map_map]
    rfl
  rw [e, cel_set]
  subst hM
  rfl
theorem ok_turn (W : Wd g) : MT g Ca "turn" 1 turnR := by
  refine MT.mk W.m_turn c_Work_turn (fun _ _ _ _ _ _ us hl => match us, hl with | [_, _], _ => rfl) (fun os M o M' h => ?_) (fun os M o M' h => ?_)
  · obtain ⟨s, i, _, _, _, _, rfl, _⟩ := h
    rfl
  obtain ⟨s, i, hi, ht, hb, hz, rfl, rfl, rfl, rfl⟩ := h
  refine ⟨Nat.le_refl _, True.intro, lowW, .inr ⟨rfl, [oW, .dat (.int (i : Int)), .no, .no], [], ?_⟩⟩
  let MM : Nat → Mem := fun n => match n with
    | 0 => wC s
    | 1 => wC ⟨negL s.r i, s.t, s.b⟩
    | 2 => wC ⟨negL s.r i, negL s.t i, s.b⟩
    | _ => wC (s.turn i)
  refine SB.one (ST.forN 2 (n := 3) (E_ := fun _ => [oW, .dat (.int (i : Int)), .no, .no]) (M_ := MM) (EI.disp (EA.cons (EV.rows W (EV.nm 0)) (EA.cons (EV.there W (EV.nm 0)) (EA.cons (EV.back W (EV.nm 0)) EA.nil))) (by decide)) Fg.refl rfl (fun _ _ => True.intro) c_Work_turn.nd (fun n hn => ?_))
  match n, hn with
  | 0, _ => exact ⟨_, Fg.cons (Fg.cons (Fg.no (Fg.no Fg.nil))), turn_one (m := s.r) hi (fun q h => hz q (by simp [h])) rfl rfl⟩
  | 1, _ => exact ⟨_, Fg.cons (Fg.cons (Fg.no (Fg.no Fg.nil))), turn_one (m := s.t) (by omega) (fun q h => hz q (by simp [h])) rfl rfl⟩
  | 2, _ => exact ⟨_, Fg.cons (Fg.cons (Fg.no (Fg.no Fg.nil))), turn_one (m := s.b) (by omega) (fun q h => hz q (by simp [h])) rfl rfl⟩
/-- the products that a take asks for -/
def takeOk (s : WS) (i : Nat) (k : Int) (j : Nat) : Prop := (∀ y ∈ s.r.getD j [], IntMulOk k y) ∧ (∀ y ∈ s.t.getD j [], IntMulOk k y) ∧ (∀ y ∈ s.b.getD i [], IntMulOk (-k) y)
def takeR : Rel := fun os M o M' => ∃ (s : WS) (i : Nat) (k : Int) (j : Nat), i < s.r.length ∧ j < s.r.length ∧ s.t.length = s.r.length ∧ s.b.length = s.r.length ∧ (∀ q ∈ s.r ++ (s.t ++ s.b), q.length < 100000) ∧ takeOk s i k j ∧ os = [oW, .dat (.int (i : Int)), .dat (.int k), .dat (.int (j : Int))] ∧ M = wC s ∧ o = .dat .non ∧ M' = wC (s.take i k j)
theorem ok_take (W : Wd g) : MT g Ca "take" 2 takeR := by
  refine MT.mk W.m_take c_Work_take (fun _ _ _ _ _ _ us hl => match us, hl with | [_, _, _, _], _ => rfl) (fun os M o M' h => ?_) (fun os M o M' h => ?_)
  · obtain ⟨s, i, k, j, _, _, _, _, _, _, rfl, _⟩ := h
    rfl
  obtain ⟨s, i, k, j, hi, hj, ht, hb, hz, ⟨o1, o2, o3⟩, rfl, rfl, rfl, rfl⟩ := h
  refine ⟨Nat.le_refl _, True.intro, lowW, .inr ⟨rfl, [oW, .dat (.int (i : Int)), .dat (.int k), .dat (.int (j : Int))], [], ?_⟩⟩
  have z1 : ∀ {m : List (List Int)} {i : Nat}, i < m.length → (∀ q ∈ m, q ∈ s.r ++ (s.t ++ s.b)) → (m.getD i []).length < 100000 := fun {m i} h q => hz _ (q _ (mem_getD h))
  refine SB.cons (E1 := [oW, .dat (.int (i : Int)), .dat (.int k), .dat (.int (j : Int))]) (M1 := wC ⟨takeL s.r i k j, s.t, s.b⟩) (ST.to (ST.asg (EV.c3 (ok_less_multiple W) (EV.ixC (EV.rows W (EV.nm 0)) (EV.nm 1) rfl (cel_at hi)) (EV.nm 2) (EV.ixC (EV.rows W (EV.nm 0)) (EV.nm 3) rfl (cel_at hj)) ⟨_, _, _, rfl, rfl, rfl, z1 hi (fun q h => by simp [h]), o1, rfl⟩) (EG.sub (EV.rows W (EV.nm 0)) (EV.nm 1) rfl (cel_ixN hi))) (by rw [cel_set]; rfl)) ?_
  refine SB.cons (E1 := [oW, .dat (.int (i : Int)), .dat (.int k), .dat (.int (j : Int))]) (M1 := wC ⟨takeL s.r i k j, takeL s.t i k j, s.b⟩) (ST.to (ST.asg (EV.c3 (ok_less_multiple W) (EV.ixC (EV.there W (EV.nm 0)) (EV.nm 1) rfl (cel_at (ht ▸ hi))) (EV.nm 2) (EV.ixC (EV.there W (EV.nm 0)) (EV.nm 3) rfl (cel_at (ht ▸ hj))) ⟨_, _, _, rfl, rfl, rfl, z1 (ht ▸ hi) (fun q h => by simp [h]), o2, rfl⟩) (EG.sub (EV.there W (EV.nm 0)) (EV.nm 1) rfl (cel_ixN (ht ▸ hi)))) (by rw [cel_set]; rfl)) ?_
  exact SB.one (ST.to (ST.asg (EV.c3 (ok_less_multiple W) (EV.ixC (EV.back W (EV.nm 0)) (EV.nm 3) rfl (cel_at (hb ▸ hj))) (EV.neg (EV.nm 2)) (EV.ixC (EV.back W (EV.nm 0)) (EV.nm 1) rfl (cel_at (hb ▸ hi))) ⟨_, _, _, rfl, rfl, rfl, z1 (hb ▸ hj) (fun q h => by simp [h]), o3, rfl⟩) (EG.sub (EV.back W (EV.nm 0)) (EV.nm 3) rfl (cel_ixN (hb ▸ hj)))) (by rw [cel_set]; rfl))
end
end
section
section
variable {C : Cc} {E : List O} {M M1 : Mem} {iter elt c : Expr} {p : Pos} {x : Str} {d : D} {scope : Scope} {own : List (Str × Nat)}
theorem LC.lMC {α : Type} (jx : Nat) {M1 : Mem} {xs : List α} {f g : α → D} (ok : blkC C.N C.sc scope own = true) (nd : C.N.Nodup) (ho : own.map (·.2) = [jx]) (h : EV C iter E M (.dat d) M1) (hd : seqD d = some (xs.map f)) (hz : xs.length < 100000)
    (step : ∀ y ∈ xs, ∀ M, EV (C.blk scope) elt ((wipeE E [jx]).set jx (.dat (f y))) M (.dat (g y)) M) (hi : C.N[jx]? = some x := by rfl) (hx : Loc (C.blk scope).sc x := by first | exact Or.inl rfl | exact Or.inr rfl) (hf' : (C.blk scope).fn x = true ∨ (C.blk scope).sc.names.lookup x = some .local := by first | exact .inl rfl | exact .inr rfl)
    (hf : ∀ env x, foldedSetIterable iter env x = pure x := by intro _ _; rfl) : LC C elt (.Name x p) iter [] scope own E M (.adr M1.length) (M1 ++ [some ((xs.map g).map .dat)]) := by
  have hlen : (xs.map f).length = xs.length := List.length_map _
  have key := LC.lPC (tg := .Name x p) (elt := elt) (ifs := []) (scope := scope) (own := own) (n := (xs.map f).length) (v := fun i => (xs.map g).getD i .non) (f := fun _ => true) ok nd (EI.seq h hd) (fun _ => True.intro) (by omega) (fun i hi' => by
    rw [hlen] at hi'
    refine ⟨_, fun M => EGv.nm jx nd (by rw [ho]; simp) hi hx hf', fun M => EP.nil, fun _ M => ?_⟩
    rw [ho, atO_map hi']
    have e : (xs.map g).getD i .non = g xs[i] := by
      rw [List.getD_eq_getElem?_getD, List.getElem?_map, List.getElem?_eq_getElem hi']
      rfl
    rw [e]
    exact step _ (List.getElem_mem hi') M) hf
  have e2 : ((List.range (xs.map f).length).filter fun _ => true).map (fun i => (xs.map g).getD i D.non) = xs.map g := by
    rw [List.filter_eq_self.mpr (fun _ _ => rfl), hlen, ← List.length_map g]
    exact range_getD _ _
  rw [e2] at key
  exact key
/-- over a cell of data -/
theorem LC.lMc {α : Type} (jx : Nat) {nc : Nat} {xs : List α} {f g : α → D} (ok : blkC C.N C.sc scope own = true) (nd : C.N.Nodup) (ho : own.map (·.2) = [jx]) (h : EV C iter E M (.adr nc) M) (hm : M[nc]? = some (some ((xs.map f).map .dat))) (hz : xs.length < 100000)
    (step : ∀ y ∈ xs, ∀ M, EV (C.blk scope) elt ((wipeE E [jx]).set jx (.dat (f y))) M (.dat (g y)) M) (hi : C.N[jx]? = some x := by rfl) (hx : Loc (C.blk scope).sc x := by first | exact Or.inl rfl | exact Or.inr rfl) (hf' : (C.blk scope).fn x = true ∨ (C.blk scope).sc.names.lookup x = some .local := by first | exact .inl rfl | exact .inr rfl)
    (hf : ∀ env x, foldedSetIterable iter env x = pure x := by intro _ _; rfl) : LC C elt (.Name x p) iter [] scope own E M (.dat (.lst (xs.map g))) M := by
  have hlen : ((xs.map f).map O.dat).length = xs.length := by rw [List.length_map, List.length_map]
  have hn : nc < M.length := (List.getElem?_eq_some_iff.mp hm).1
  have key := LC.lPF (tg := .Name x p) (elt := elt) (ifs := []) (scope := scope) (own := own) (n := ((xs.map f).map O.dat).length) (v := fun i => (xs.map g).getD i .non) (f := fun _ => true) ok nd (EI.cell h hm) (fun c => by rw [List.getElem?_append_left hn]; exact hm) (by omega) (Nat.le_refl _) OkM.refl (fun i hi' => by
    rw [hlen] at hi'
    refine ⟨_, fun M => EGv.nm jx nd (by rw [ho]; simp) hi hx hf', fun M => EP.nil, fun _ M => ?_⟩
    have e0 : ((xs.map f).map O.dat).getD i .no = .dat (f xs[i]) := by
      rw [List.getD_eq_getElem?_getD, List.getElem?_map, List.getElem?_map, List.getElem?_eq_getElem hi']
      rfl
    rw [ho, e0]
    have e : (xs.map g).getD i .non = g xs[i] := by
      rw [List.getD_eq_getElem?_getD, List.getElem?_map, List.getElem?_eq_getElem hi']
      rfl
    rw [e]
    exact step _ (List.getElem_mem hi') M) hf
  have e2 : ((List.range ((xs.map f).map O.dat).length).filter fun _ => true).map (fun i => (xs.map g).getD i D.non) = xs.map g := by
    rw [List.filter_eq_self.mpr (fun _ _ => rfl), hlen, ← List.length_map g]
    exact range_getD _ _
  rw [e2] at key
  exact key
end
section
variable {g : Pg}
def wsOf (a : List (List Int)) : WS := ⟨a, unitM a.length, unitM a.length⟩
def initR : RelI := fun os M fs M' => ∃ a : List (List Int), a.length < 100000 ∧ os = [.dat (tM a)] ∧ M = [] ∧ fs = F0 ∧ M' = wC (wsOf a)
theorem unit_len {n : Nat} : (unitM n).length = n := by unfold unitM; rw [List.length_map, List.length_range]
theorem ok_Work (W : Wd g) : MK g "Work" Ca 2 initR := by
  obtain ⟨f, fd, F, hM⟩ := W.in_Work
  refine MK.mk F hM W.mg_Work c_Work_init (fun _ _ _ _ _ _ us hl => match us, hl with | [_, _], _ => rfl) (by decide) (fun os M fs M' h => ?_) (fun os M fs M' h => ?_)
  · obtain ⟨a, _, rfl, _⟩ := h
    rfl
  obtain ⟨a, hz, rfl, rfl, rfl, rfl⟩ := h
  have cp : ∀ {m : List (List Int)}, (some ((m.map fun r => lV r).map O.dat) : Option (List O)) = cel m := fun {m} => rfl
  refine DoI.cons (k := 0) (M1 := [cel a]) (LC.ev (LC.lMC (M1 := []) 2 (xs := a) (f := tV) (g := lV) (own := [("row", 2)]) (by rfl) c_Work_init.nd rfl (EV.nm 1) rfl hz (fun y _ M => EV.list (EV.nm 2) rfl W.b.list))) ?_ W.cls_Work W.no_rows (by decide)
  refine DoI.cons (k := 1) (M1 := [cel a, cel (unitM a.length)]) (LC.ev (LC.lMC (M1 := [cel a]) 2 (xs := unitM a.length) (f := tV) (g := lV) (own := [("row", 2)]) (by rfl) c_Work_init.nd rfl (EV.c1 (ok_unit W) (EV.len (EV.nm 1) len_tM W.b.len) ⟨a.length, hz, rfl, rfl⟩) rfl (by rw [unit_len]; exact hz) (fun y _ M => EV.list (EV.nm 2) rfl W.b.list))) ?_ W.cls_Work W.no_there (by decide)
  refine DoI.cons (k := 2) (M1 := wC (wsOf a)) (LC.ev (LC.lMC (M1 := [cel a, cel (unitM a.length)]) 2 (xs := unitM a.length) (f := tV) (g := lV) (own := [("row", 2)]) (by rfl) c_Work_init.nd rfl (EV.c1 (ok_unit W) (EV.len (EV.nm 1) len_tM W.b.len) ⟨a.length, hz, rfl, rfl⟩) rfl (by rw [unit_len]; exact hz) (fun y _ M => EV.list (EV.nm 2) rfl W.b.list))) DoI.nil W.cls_Work W.no_back (by decide)
def waysR : Rel := fun os M o M' => ∃ s : WS, s.r.length < 100000 ∧ s.t.length < 100000 ∧ s.b.length < 100000 ∧ s.b ≠ [] ∧ (∀ q ∈ s.b, q.length = wd s.b) ∧ wd s.b < 100000 ∧ os = [oW] ∧ M = wC s ∧ o = .dat (.tup [tM s.r, tM s.t, tM (flip s.b)]) ∧ M' = wC s
theorem tM_lst {m : List (List Int)} : D.tup (m.map fun r => tV r) = tM m := rfl
theorem ok_ways (W : Wd g) : MT g Ca "ways" 2 waysR := by
  refine MT.mk W.m_ways c_Work_ways (fun _ _ _ _ _ _ us hl => match us, hl with | [_], _ => rfl) (fun os M o M' h => ?_) (fun os M o M' h => ?_)
  · obtain ⟨s, _, _, _, _, _, _, rfl, _⟩ := h
    rfl
  obtain ⟨s, z1, z2, z3, hne, hr, hw, rfl, rfl, rfl, rfl⟩ := h
  refine ⟨Nat.le_refl _, True.intro, lowW, .inl ⟨[], ?_⟩⟩
  refine SB.cons (E1 := [oW, .dat (tM s.t), .no, .no]) (M1 := wC s) (ST.set 1 (EV.tuple (LC.ev (LC.lMc 3 (nc := 1) (xs := s.t) (f := lV) (g := tV) (own := [("row", 3)]) (by rfl) c_Work_ways.nd rfl (EV.there W (EV.nm 0)) rfl z2 (fun y _ M => EV.tuple (EV.nm 3) rfl W.b.tuple))) rfl W.b.tuple) c_Work_ways.nd) ?_
  refine SB.cons (E1 := [oW, .dat (tM s.t), .dat (tM (flip s.b)), .no]) (M1 := wC s) (ST.set 2 (EV.c1 (ok_flipped W) (EV.tuple (LC.ev (LC.lMc 3 (nc := 2) (xs := s.b) (f := lV) (g := tV) (own := [("row", 3)]) (by rfl) c_Work_ways.nd rfl (EV.back W (EV.nm 0)) rfl z3 (fun y _ M => EV.tuple (EV.nm 3) rfl W.b.tuple))) rfl W.b.tuple) ⟨s.b, rfl, hne, hr, z3, hw, rfl⟩) c_Work_ways.nd) ?_
  exact SB.one (ST.ret (EV.tup (ds := [tM s.r, tM s.t, tM (flip s.b)]) (EA.cons (EV.tuple (LC.ev (LC.lMc 3 (nc := 0) (xs := s.r) (f := lV) (g := tV) (own := [("row", 3)]) (by rfl) c_Work_ways.nd rfl (EV.rows W (EV.nm 0)) rfl z1 (fun y _ M => EV.tuple (EV.nm 3) rfl W.b.tuple))) rfl W.b.tuple) (EA.cons (EV.nm 1) (EA.cons (EV.nm 2) EA.nil))) (by simp)))
theorem methW0 {C : Cc} {E : List O} {s : WS} {a : Expr} {apos pos : Pos} {m : Str} {kf : Nat} {R : Rel} {d : D} (F : MT C.g Ca m kf R) (ho : EV C a E (wC s) oW (wC s)) (cl : Cls C.g.K Ca) (hR : R [oW] (wC s) (.dat d) (wC s)) (hl : F0.lookup m = none := by rfl) (hk : Nat.ble kf C.k = true := by rfl)
    (ht : ∀ env, ∃ pl : Sem Bool, eval (.Call (.Attribute a m apos) [] [] pos) env = (do
      let ov ← eval a env
      standAt apos.atName
      let (f, first) ← holding [ov] (getMethod ov m pl)
      callWith pos f first (backTo pos (starEach [] env)) (backToKw pos (keywordEach [] env))) := by intro _; exact ⟨_, rfl⟩) :
    EV C (.Call (.Attribute a m apos) [] [] pos) E (wC s) (.dat d) (wC s) := by
  obtain ⟨f, fd, ps, hm, F, hb⟩ := F
  refine EV.mk (t := tMeth Ca m (spR R) [] E0 (UE C a) tNil) (fun X hX => ?_) fun I H adr σ Q st q => ?_
  · obtain ⟨pl, hpl'⟩ := ht X.env
    exact pe_meth0 (pl := pl) (C := Ca) (k := kf) (f := f) (fd := fd) (ps := ps) (ue hX a) (by rw [hX.K]; exact cl) (by rw [hX.K]; exact hm) (by rw [hX.P, hX.w, hX.K, hX.mg, hX.base]; exact F) (hX.room.mono (Nat.le_of_ble_eq_true hk)) (by rw [hX.K]; exact hb) .nil pass0 hpl'
  · refine ho I H adr σ _ st fun v I1 H1 adr1 s1 g1 v1 => ?_
    have v1' := v1
    obtain ⟨p, dx, gs, rfl, h2, h3⟩ := v1
    refine ⟨p, dx, gs, rfl, s1.ex _ _ h2, fpNone h3 hl, ?_⟩
    obtain ⟨adr0, sto0, vs0, back⟩ := call_mix s1 (mixW (s := s) (s' := s))
    have v3 : Vs I1 adr1 [oW] [.ref p] := .cons v1' .nil
    show spR R [.ref p] H1 Q E0
    refine ⟨I1, adr0, [oW], wC s, .dat d, wC s, hR, s1.ex, sto0, vs0 [oW] _ v3, fun z I3 H3 adr0' ex3 sto3 g3 v4 => ?_⟩
    obtain ⟨adr3, s3, g4, dr⟩ := back I3 H3 adr0' ex3 sto3 g3
    exact q z I3 H3 adr3 s3 (g1.trans g4) (dr (.dat d) _ v4)
end
/-! ### clear_column -/
section
variable {g : Pg}
def ent (s : WS) (i c : Nat) : Int := (s.r.getD i []).getD c 0
structure Wf (s : WS) (n w : Nat) : Prop where
  r : s.r.length = n
  t : s.t.length = n
  b : s.b.length = n
  rw : ∀ q ∈ s.r, q.length = w
  tw : ∀ q ∈ s.t, q.length = n
  bw : ∀ q ∈ s.b, q.length = n
  n0 : 1 ≤ n
  n1 : n ≤ 1000
  w1 : w ≤ 1000
theorem Wf.small {s : WS} {n w : Nat} (h : Wf s n w) : ∀ q ∈ s.r ++ (s.t ++ s.b), q.length < 100000 := fun q hq => by
  have h1 := h.n1
  have h2 := h.w1
  simp only [List.mem_append] at hq
  rcases hq with hq | hq | hq
  · rw [h.rw q hq]; omega
  · rw [h.tw q hq]; omega
  · rw [h.bw q hq]; omega
theorem lessV_len {v w : List Int} {k : Int} (h : v.length = w.length) : (lessV v k w).length = v.length := by
  unfold lessV
  rw [List.length_map, List.length_zip]
  omega
theorem mem_set' {α : Type} {l : List α} {i : Nat} {a x : α} (h : x ∈ l.set i a) : x = a ∨ x ∈ l := by
  rcases List.mem_or_eq_of_mem_set h with h | h
  · exact .inr h
  · exact .inl h
theorem Wf.swap {s : WS} {n w i j : Nat} (h : Wf s n w) (hi : i < n) (hj : j < n) : Wf (s.swap i j) n w := by
  have key : ∀ {l : List (List Int)} {u : Nat}, l.length = n → (∀ q ∈ l, q.length = u) → (swapL l i j).length = n ∧ ∀ q ∈ swapL l i j, q.length = u := fun {l u} hl hq => by
    unfold swapL
    refine ⟨by rw [List.length_set, List.length_set]; exact hl, fun q hq' => ?_⟩
    rcases mem_set' hq' with rfl | hq'
    · exact hq _ (mem_getD (by omega))
    · rcases mem_set' hq' with rfl | hq'
      · exact hq _ (mem_getD (by omega))
      · exact hq _ hq'
  exact ⟨(key h.r h.rw).1, (key h.t h.tw).1, (key h.b h.bw).1, (key h.r h.rw).2, (key h.t h.tw).2, (key h.b h.bw).2, h.n0, h.n1, h.w1⟩
theorem Wf.turn {s : WS} {n w i : Nat} (h : Wf s n w) (hi : i < n) : Wf (s.turn i) n w := by
  have key : ∀ {l : List (List Int)} {u : Nat}, l.length = n → (∀ q ∈ l, q.length = u) → (negL l i).length = n ∧ ∀ q ∈ negL l i, q.length = u := fun {l u} hl hq => by
    unfold negL
    refine ⟨by rw [List.length_set]; exact hl, fun q hq' => ?_⟩
    rcases mem_set' hq' with rfl | hq'
    · rw [List.length_map]
      exact hq _ (mem_getD (by omega))
    · exact hq _ hq'
  exact ⟨(key h.r h.rw).1, (key h.t h.tw).1, (key h.b h.bw).1, (key h.r h.rw).2, (key h.t h.tw).2, (key h.b h.bw).2, h.n0, h.n1, h.w1⟩
theorem Wf.take {s : WS} {n w i j : Nat} {k : Int} (h : Wf s n w) (hi : i < n) (hj : j < n) : Wf (s.take i k j) n w := by
  have key : ∀ {l : List (List Int)} {u : Nat} {i j : Nat} {k : Int}, i < n → j < n → l.length = n → (∀ q ∈ l, q.length = u) → (takeL l i k j).length = n ∧ ∀ q ∈ takeL l i k j, q.length = u := fun {l u i j k} hi hj hl hq => by
    unfold takeL
    refine ⟨by rw [List.length_set]; exact hl, fun q hq' => ?_⟩
    have e1 := hq _ (mem_getD (a0 := []) (show i < l.length by omega))
    have e2 := hq _ (mem_getD (a0 := []) (show j < l.length by omega))
    rcases mem_set' hq' with rfl | hq'
    · rw [lessV_len (by rw [e1, e2])]
      exact e1
    · exact hq _ hq'
  exact ⟨(key hi hj h.r h.rw).1, (key hi hj h.t h.tw).1, (key hj hi h.b h.bw).1, (key hi hj h.r h.rw).2, (key hi hj h.t h.tw).2, (key hj hi h.b h.bw).2, h.n0, h.n1, h.w1⟩
/-- the places from lo on whose number is not 0 -/
def bl (s : WS) (lo c : Nat) : List Nat := ((List.range (s.r.length - lo)).filter fun i => !decide (ent s (lo + i) c = 0)).map fun i => lo + i
def bestI (ka kb : Nat → Int) : Nat → Nat
  | 0 => 0
  | n + 1 => if kLess ka kb (n + 1) (bestI ka kb n) then n + 1 else bestI ka kb n
theorem bestI_le {ka kb : Nat → Int} : ∀ n, bestI ka kb n ≤ n
  | 0 => Nat.le_refl _
  | n + 1 => by
    unfold bestI
    split
    · exact Nat.le_refl _
    · exact Nat.le_succ_of_le (bestI_le n)
theorem bestI_ok {ka kb : Nat → Int} : ∀ n, kBest ka kb (n + 1) (bestI ka kb n)
  | 0 => fun j hj => by
    have e : j = 0 := by omega
    subst e
    exact ⟨(show ¬ kLess ka kb 0 0 by unfold kLess; omega), fun h => by simp [bestI] at h⟩
  | n + 1 => fun j hj => by
    have ih := bestI_ok (ka := ka) (kb := kb) n
    have hle := bestI_le (ka := ka) (kb := kb) n
    unfold bestI
    by_cases hc : kLess ka kb (n + 1) (bestI ka kb n)
    · rw [if_pos hc]
      by_cases e : j = n + 1
      · subst e
        exact ⟨by unfold kLess; omega, fun h => by omega⟩
      · have h1 := ih j (by omega)
        unfold kLess at *
        omega
    · rw [if_neg hc]
      by_cases e : j = n + 1
      · subst e
        exact ⟨hc, fun h => by omega⟩
      · exact ih j (by omega)
def bestAt (s : WS) (c : Nat) (l : List Nat) : Nat := l.getD (bestI (fun j => ((ent s (l.getD j 0) c).natAbs : Int)) (fun j => (l.getD j 0 : Int)) (l.length - 1)) 0
def swapIf (s : WS) (best top : Nat) : WS := if best = top then s else s.swap best top
def turnIf (s : WS) (top c : Nat) : WS := if ent s top c < 0 then s.turn top else s
def prep (s : WS) (top c best : Nat) : WS := turnIf (swapIf s best top) top c
def sub1 (top c : Nat) (s : WS) (at_ : Nat) : WS := s.take at_ ((ent s at_ c).fdiv (ent s top c)) top
def subs (s : WS) (top c lo : Nat) : Nat → WS
  | 0 => s
  | k + 1 => sub1 top c (subs s top c lo k) (lo + k)
def rnd (s : WS) (top c : Nat) (l : List Nat) : WS := subs (prep s top c (bestAt s c l)) top c (top + 1) (s.r.length - (top + 1))
def itr (s : WS) (top c : Nat) : Nat → WS × List Nat
  | 0 => (s, bl s top c)
  | i + 1 => let u := itr s top c i; let s' := rnd u.1 top c u.2; (s', bl s' (top + 1) c)
/-- all products of a row of takes are small enough -/
def subsOk (s : WS) (top c lo n : Nat) : Prop := ∀ k, k < n → takeOk (subs s top c lo k) (lo + k) ((ent (subs s top c lo k) (lo + k) c).fdiv (ent (subs s top c lo k) top c)) top
theorem bl_mem {s : WS} {lo c at_ : Nat} : at_ ∈ bl s lo c ↔ lo ≤ at_ ∧ at_ < s.r.length ∧ ent s at_ c ≠ 0 := by
  unfold bl
  simp only [List.mem_map, List.mem_filter, List.mem_range, Bool.not_eq_true', decide_eq_false_iff_not]
  constructor
  · rintro ⟨i, ⟨h1, h2⟩, rfl⟩
    exact ⟨by omega, by omega, h2⟩
  · rintro ⟨h1, h2, h3⟩
    refine ⟨at_ - lo, ⟨by omega, ?_⟩, by omega⟩
    rw [show lo + (at_ - lo) = at_ by omega]
    exact h3
theorem bestAt_mem {s : WS} {c : Nat} {l : List Nat} (h : l ≠ []) : bestAt s c l ∈ l := by
  unfold bestAt
  refine mem_getD (Nat.lt_of_le_of_lt (bestI_le _) ?_)
  cases l with
  | nil => exact absurd rfl h
  | cons a r => simp
theorem wf_swapIf {s : WS} {n w top best : Nat} (h : Wf s n w) (ht : top < n) (hb : best < n) : Wf (swapIf s best top) n w := by
  unfold swapIf
  split
  · exact h
  · exact h.swap hb ht
theorem wf_turnIf {s : WS} {n w top c : Nat} (h : Wf s n w) (ht : top < n) : Wf (turnIf s top c) n w := by
  unfold turnIf
  split
  · exact h.turn ht
  · exact h
theorem wf_prep {s : WS} {n w top c best : Nat} (h : Wf s n w) (ht : top < n) (hb : best < n) : Wf (prep s top c best) n w := wf_turnIf (wf_swapIf h ht hb) ht
theorem wf_subs {s : WS} {n w top c lo : Nat} (h : Wf s n w) (ht : top < n) : ∀ k, lo + k ≤ n → Wf (subs s top c lo k) n w
  | 0, _ => h
  | k + 1, hk => (wf_subs h ht k (by omega)).take (by omega) ht
theorem ev_ent {C : Cc} {E : List O} {M : Mem} {s : WS} {n w : Nat} {a b c : Expr} {p1 p2 p3 : Pos} {i j : Nat} (W : Wd C.g) (h : Wf s n w) (hM : M[0]? = some (cel s.r)) (ha : EV C a E M oW M) (hb : EV C b E M (.dat (.int (i : Int))) M) (hc : EV C c E M (.dat (.int (j : Int))) M) (hi : i < n) (hj : j < w)
    (ht : ∀ env, attributeBase a "rows" env (eval a env) = eval a env := by intro _; rfl) (h1 : PlainIx b := by exact fun _ _ => rfl) (h2 : PlainIx c := by exact fun _ _ => rfl) :
    EV C (.Subscript (.Subscript (.Attribute a "rows" p1) b p2) c p3) E M (.dat (.int (ent s i j))) M :=
  EV.ix (EV.ixC (EV.rows W ha ht) hb hM (cel_at (by rw [h.r]; exact hi)) h1) hc (ix_lV (by rw [h.rw _ (mem_getD (by rw [h.r]; exact hi))]; exact hj)) h2
end
end
section
section
variable {C : Cc} {E : List O} {M M1 : Mem} {iter elt c tg : Expr} {ifs : List Expr} {p : Pos} {x : Str} {d : D} {scope : Scope} {own : List (Str × Nat)}
/-- pure elements that look at the cells -/
theorem LC.lPG {n : Nat} {it : Nat → O} {inv : Mem → Prop} {v : Nat → D} {f : Nat → Bool} (ok : blkC C.N C.sc scope own = true) (nd : C.N.Nodup) (hs : EI C tg iter E M n it M1 inv) (hinv : ∀ c, inv (M1 ++ [c])) (hn : n < 100000) (hl : M.length ≤ M1.length) (hok : OkM M M1)
    (step : ∀ i, i < n → ∃ Ex, (∀ M, EGv (C.blk scope) (own.map (·.2)) tg (it i) (wipeE E (own.map (·.2))) M Ex M) ∧ (∀ c, EP (C.blk scope) ifs Ex (M1 ++ [c]) (f i) (M1 ++ [c])) ∧ (f i = true → ∀ c, EV (C.blk scope) elt Ex (M1 ++ [c]) (.dat (v i)) (M1 ++ [c])))
    (hf : ∀ env x, foldedSetIterable iter env x = pure x := by intro _ _; rfl) : LC C elt tg iter ifs scope own E M (.dat (.lst (((List.range n).filter f).map v))) M1 := by
  have key : LC C elt tg iter ifs scope own E M (.adr M1.length) (M1 ++ [some ((((List.range n).filter f).map v).map .dat)]) := by
    refine LC.gen (A := fun i => M1 ++ [some ((((List.range i).filter f).map v).map .dat)]) (acc := fun i => (((List.range i).filter f).map v).map .dat) ok nd hs rfl rfl (fun i _ => hinv _) (fun i hi => ?_) hf
    obtain ⟨Ex, h1, h2, h3⟩ := step i hi
    refine ⟨Ex, _, f i, _, h1 _, h2 _, ?_⟩
    have e0 : (List.range (i + 1)).filter f = (List.range i).filter f ++ if f i = true then [i] else [] := by
      rw [List.range_succ, List.filter_append, List.filter_cons]
      split <;> rfl
    cases hb : f i with
    | true =>
      refine .inl ⟨rfl, .dat (v i), _, h3 hb _, getE_append, ?_, ?_, ?_⟩
      · rw [List.length_map, List.length_map]
        have := List.length_filter_le f (List.range i)
        rw [List.length_range] at this
        omega
      · rw [hb] at e0
        show M1 ++ [some ((((List.range (i + 1)).filter f).map v).map O.dat)] = _
        rw [set_append, e0, List.map_append, List.map_append]
        rfl
      · rw [hb] at e0
        show (((List.range (i + 1)).filter f).map v).map O.dat = _
        rw [e0, List.map_append, List.map_append]
        rfl
    | false =>
      rw [hb] at e0
      have e : (((List.range (i + 1)).filter f).map v).map O.dat = (((List.range i).filter f).map v).map O.dat := by
        rw [e0]
        simp
      refine .inr ⟨rfl, ?_, ?_⟩
      · show M1 ++ [some ((((List.range (i + 1)).filter f).map v).map O.dat)] = _
        rw [e]
      · exact e
  exact LC.froz key fun h => Ev.froz h rfl hl hok
end
section
variable {g : Pg}
def lN (l : List Nat) : D := .lst (l.map fun (k : Nat) => .int (k : Int))
theorem lN_bl {s : WS} {lo c : Nat} : lN (bl s lo c) = .lst (((List.range (s.r.length - lo)).filter fun i => !decide (ent s (lo + i) c = 0)).map fun i => .int (((lo + i : Nat)) : Int)) := by
  unfold lN bl
  rw [List.map_map]
  rfl
def clearOk (s : WS) (n w top c m : Nat) : Prop := Wf s n w ∧ top < n ∧ c < w ∧ (itr s top c m).2 = [] ∧ ∀ i, i < m → (itr s top c i).2 ≠ [] ∧ subsOk (prep (itr s top c i).1 top c (bestAt (itr s top c i).1 c (itr s top c i).2)) top c (top + 1) (n - (top + 1))
def clearR : Rel := fun os M o M' => ∃ (s : WS) (n w top c m : Nat), clearOk s n w top c m ∧ os = [oW, .dat (.int (top : Int)), .dat (.int (c : Int))] ∧ M = wC s ∧ o = .dat .non ∧ M' = wC (itr s top c m).1
theorem itr_mem {s : WS} {top c : Nat} : ∀ i, ∀ a ∈ (itr s top c i).2, top ≤ a ∧ a < (itr s top c i).1.r.length ∧ ent (itr s top c i).1 a c ≠ 0
  | 0, a, h => bl_mem.mp h
  | i + 1, a, h => by
    obtain ⟨h1, h2, h3⟩ := bl_mem.mp h
    exact ⟨by omega, h2, h3⟩
theorem wf_itr {s : WS} {n w top c : Nat} (h : Wf s n w) (ht : top < n) : ∀ i, (∀ j, j < i → (itr s top c j).2 ≠ []) → Wf (itr s top c i).1 n w
  | 0, _ => h
  | i + 1, hj => by
    have ih := wf_itr h ht i fun j hj' => hj j (by omega)
    have hb := itr_mem i _ (bestAt_mem (c := c) (s := (itr s top c i).1) (hj i (by omega)))
    rw [ih.r] at hb
    show Wf (rnd _ top c _) n w
    unfold rnd
    rw [ih.r]
    exact wf_subs (wf_prep ih ht hb.2.1) ht _ (by omega)
/-- the pivot is there -/
theorem ent_swap {s : WS} {n w i j c : Nat} (h : Wf s n w) (hi : i < n) (hj : j < n) : ent (s.swap i j) j c = ent s i c := by
  unfold ent WS.swap swapL
  show (List.getD _ j []).getD c 0 = _
  congr 1
  rw [List.getD_eq_getElem?_getD, List.getElem?_set_self (by rw [List.length_set, h.r]; exact hj)]
  rfl
theorem ent_prep0 {s : WS} {n w top best c : Nat} (h : Wf s n w) (ht : top < n) (hb : best < n) : ent (swapIf s best top) top c = ent s best c := by
  unfold swapIf
  split
  · rename_i e; rw [e]
  · exact ent_swap h hb ht
theorem getD_map_neg {l : List Int} {c : Nat} : (l.map fun x => -x).getD c 0 = -(l.getD c 0) := by
  rw [List.getD_eq_getElem?_getD, List.getD_eq_getElem?_getD, List.getElem?_map]
  cases l[c]? <;> rfl
theorem ent_turn {s : WS} {n w i c : Nat} (h : Wf s n w) (hi : i < n) : ent (s.turn i) i c = -ent s i c := by
  unfold ent WS.turn negL
  show (List.getD _ i []).getD c 0 = _
  rw [← getD_map_neg]
  congr 1
  rw [List.getD_eq_getElem?_getD, List.getElem?_set_self (by rw [h.r]; exact hi)]
  rfl
theorem ent_prep {s : WS} {n w top best c : Nat} (h : Wf s n w) (ht : top < n) (hb : best < n) : ent (prep s top c best) top c = ((ent s best c).natAbs : Int) := by
  unfold prep turnIf
  have e := ent_prep0 (c := c) h ht hb
  split
  · rename_i hn
    rw [ent_turn (wf_swapIf h ht hb) ht]
    omega
  · omega
theorem ent_take {s : WS} {n w i j c a : Nat} {k : Int} (h : Wf s n w) (hi : i < n) (hj : j < n) (ha : a ≠ i) : ent (s.take i k j) a c = ent s a c := by
  unfold ent WS.take takeL
  show (List.getD _ a []).getD c 0 = _
  congr 1
  rw [List.getD_eq_getElem?_getD, List.getElem?_set_ne (fun z => ha z.symm), ← List.getD_eq_getElem?_getD]
theorem ent_subs_top {s : WS} {n w top c lo : Nat} (h : Wf s n w) (ht : top < n) (hlo : top < lo) : ∀ k, lo + k ≤ n → ent (subs s top c lo k) top c = ent s top c
  | 0, _ => rfl
  | k + 1, hk => by
    show ent (sub1 top c _ _) top c = _
    unfold sub1
    rw [ent_take (wf_subs h ht k (by omega)) (by omega) ht (by omega)]
    exact ent_subs_top h ht hlo k (by omega)
theorem range_sub {n lo : Nat} : ((n : Int) - ((lo : Nat) : Int)).toNat = n - lo := by omega
end
section
variable {g : Pg}
abbrev cdC : Option (Value × Str) := some (.ref cA, "clear_column" ++ ".<locals>.")
abbrev CC (g : Pg) (k : Nat) : Cc := mkCd g n_clear_column s_clear_column k cdC
def lamOf : Stmt → Expr
  | .Assign _ (.Call _ _ [⟨_, e, _⟩] _) _ => e
  | _ => .Constant .none 0 ⟨0, 0, 0, 0⟩
theorem clear_top {k : Nat} (W : Wd g) {s : WS} {n w top c lo : Nat} (h : Wf s n w) (hc : c < w) {o3 o4 : O} {st : Stmt} (ht : top < n) (hst : st = (defBody s_clear_column).getD 0 (.Pass ⟨0, 0, 0, 0⟩) ∧ lo = top) :
    ST (CC g k) st [oW, .dat (.int (top : Int)), .dat (.int (c : Int)), o3, o4, .no] (wC s) (.nx [oW, .dat (.int (top : Int)), .dat (.int (c : Int)), .dat (lN (bl s lo c)), o4, .no] (wC s)) := by
  obtain ⟨rfl, rfl⟩ := hst
  rw [lN_bl, h.r, ← range_sub]
  exact ST.to (LC.set 3 (LC.lPG (own := [("at", 5)]) (it := atI0 ((lo : Nat) : Int)) (inv := tt) (v := fun i => .int (((lo + i : Nat)) : Int)) (f := fun i => !decide (ent s (lo + i) c = 0)) (by rfl) c_clear_column.nd (EI.rng2 (EV.nm 1) (EV.to (EV.lenC (EV.rows W (EV.nm 0)) rfl W.b.len) (by rw [cel_len, h.r])) W.b.range (by have := h.n1; omega) (by have := h.n1; omega)) (fun _ => True.intro) (by have := h.n1; omega) (Nat.le_refl _) OkM.refl (fun i hi =>
    have hi' : lo + i < n := by omega
    have e : atI0 ((lo : Nat) : Int) i = .dat (.int ((lo + i : Nat) : Int)) := by
      unfold atI0
      rw [Int.natCast_add]
    ⟨_, fun M => EGv.nm 5 c_clear_column.nd (by simp), fun cc => e ▸ EP.one (ET.cm (ev_ent W h rfl (EV.nm 0) (EV.nm 5) (EV.nm 2) hi' hc) EV.int CS.neI), fun _ cc => e ▸ EV.nm 5⟩)) rfl rfl (fun env he => sw_true (by rw [he]; rfl) (by rw [he]; rfl) (by rfl) (by rfl))) rfl
def wbody : List Stmt := match (defBody s_clear_column).getD 1 (.Pass ⟨0, 0, 0, 0⟩) with
  | .While _ b _ _ => b
  | _ => []
theorem clear_low {k : Nat} (W : Wd g) {s : WS} {n w top c : Nat} (h : Wf s n w) (hc : c < w) {o3 o4 : O} (ht : top < n) :
    ST (CC g k) (wbody.getD 4 (.Pass ⟨0, 0, 0, 0⟩)) [oW, .dat (.int (top : Int)), .dat (.int (c : Int)), o3, o4, .no] (wC s) (.nx [oW, .dat (.int (top : Int)), .dat (.int (c : Int)), .dat (lN (bl s (top + 1) c)), o4, .no] (wC s)) := by
  rw [lN_bl, h.r, ← range_sub]
  exact ST.to (LC.set 3 (LC.lPG (own := [("at", 5)]) (it := atI0 (((top + 1 : Nat)) : Int)) (inv := tt) (v := fun i => .int (((top + 1 + i : Nat)) : Int)) (f := fun i => !decide (ent s (top + 1 + i) c = 0)) (by rfl) c_clear_column.nd (EI.rng2 (i := ((top + 1 : Nat) : Int)) (EV.to (EV.add (i := (top : Int)) (j := 1) (EV.nm 1) EV.int) rfl) (EV.to (EV.lenC (EV.rows W (EV.nm 0)) rfl W.b.len) (by rw [cel_len, h.r])) W.b.range (by have := h.n1; omega) (by have := h.n1; omega)) (fun _ => True.intro) (by have := h.n1; omega) (Nat.le_refl _) OkM.refl (fun i hi =>
    have hi' : top + 1 + i < n := by omega
    have e : atI0 (((top + 1 : Nat)) : Int) i = .dat (.int ((top + 1 + i : Nat) : Int)) := by
      unfold atI0
      rw [Int.natCast_add (top + 1) i]
    ⟨_, fun M => EGv.nm 5 c_clear_column.nd (by simp), fun cc => e ▸ EP.one (ET.cm (ev_ent W h rfl (EV.nm 0) (EV.nm 5) (EV.nm 2) hi' hc) EV.int CS.neI), fun _ cc => e ▸ EV.nm 5⟩)) rfl rfl (fun env he => sw_true (by rw [he]; rfl) (by rw [he]; rfl) (by rfl) (by rfl))) rfl
theorem clear_min {k : Nat} (W : Wd g) {s : WS} {n w top c : Nat} (h : Wf s n w) (hc : c < w) (ht : top < n) {l : List Nat} (hl : l ≠ []) (hln : ∀ a ∈ l, a < n) {o4 : O} :
    ST (CC g (k + 2)) (wbody.getD 0 (.Pass ⟨0, 0, 0, 0⟩)) [oW, .dat (.int (top : Int)), .dat (.int (c : Int)), .dat (lN l), o4, .no] (wC s) (.nx [oW, .dat (.int (top : Int)), .dat (.int (c : Int)), .dat (lN l), .dat (.int (bestAt s c l : Int)), .no] (wC s)) := by
  have hpos : 0 < l.length := by
    cases l with
    | nil => exact absurd rfl hl
    | cons a r => simp
  have hb := bestI_ok (ka := fun j => ((ent s (l.getD j 0) c).natAbs : Int)) (kb := fun j => (l.getD j 0 : Int)) (l.length - 1)
  have hle := bestI_le (ka := fun j => ((ent s (l.getD j 0) c).natAbs : Int)) (kb := fun j => (l.getD j 0 : Int)) (l.length - 1)
  have hlt : bestI (fun j => ((ent s (l.getD j 0) c).natAbs : Int)) (fun j => (l.getD j 0 : Int)) (l.length - 1) < l.length := by omega
  have ln : (l.map fun (k : Nat) => D.int (k : Int)).length = l.length := List.length_map _
  have gt : ∀ (j : Nat) (d : D), (l.map fun (k : Nat) => D.int (k : Int))[j]? = some d → d = .int ((l.getD j 0 : Nat) : Int) ∧ j < l.length := fun j d hd => by
    have hj : j < l.length := by rw [← ln]; exact (List.getElem?_eq_some_iff.mp hd).1
    rw [List.getElem?_map, List.getElem?_eq_getElem hj] at hd
    refine ⟨?_, hj⟩
    rw [List.getD_eq_getElem?_getD, List.getElem?_eq_getElem hj]
    exact (Option.some.inj hd).symm
  refine ST.set 4 (EV.minKey (ds := l.map fun (k : Nat) => .int (k : Int)) (q := "clear_column" ++ ".<locals>.") (cA := cA) (P := pA) (N := ["at", "work", "column"]) (fr := ["work", "column"]) (pn := "at") (js := [0, 2]) (cs := [oW, .dat (.int (c : Int))]) (k := k) (ka := fun j => ((ent s (l.getD j 0) c).natAbs : Int)) (kb := fun j => (l.getD j 0 : Int))
    (EV.nm 3) rfl W.l_clear_column.tb ?_ ?_ (NdefX.nscope_by (by decide +kernel)) (show NdefX.ndefB (defScope s_clear_column) _ _ = true by decide +kernel) (fun _ _ _ _ _ _ => rfl) rfl rfl (Nat.le_refl _) (fun j d hd => ?_) (by rw [ln, show l.length = l.length - 1 + 1 by omega]; exact hb) ?_ W.b.min) c_clear_column.nd
  · exact List.mem_singleton.mpr (by rfl)
  · intro p hp _
    rw [List.mem_singleton.mp hp]
    rfl
  · obtain ⟨rfl, hj⟩ := gt j d hd
    exact EV.tup (ds := [.int ((ent s (l.getD j 0) c).natAbs : Int), .int ((l.getD j 0 : Nat) : Int)]) (EA.cons (EV.abs (ev_ent W h rfl (EV.nm 1) (EV.nm 0) (EV.nm 2) (hln _ (mem_getD hj)) hc) W.b.abs) (EA.cons (EV.nm 0) EA.nil)) (by simp)
  · rw [List.getElem?_map]
    unfold bestAt
    rw [List.getD_eq_getElem?_getD, List.getElem?_eq_getElem hlt]
    rfl
theorem clear_swap {k : Nat} (W : Wd g) {s : WS} {n w top c best : Nat} (h : Wf s n w) (ht : top < n) (hb : best < n) {o3 : O} (hk : Nat.ble 1 k = true) :
    ST (CC g k) (wbody.getD 1 (.Pass ⟨0, 0, 0, 0⟩)) [oW, .dat (.int (top : Int)), .dat (.int (c : Int)), o3, .dat (.int (best : Int)), .no] (wC s) (.nx [oW, .dat (.int (top : Int)), .dat (.int (c : Int)), o3, .dat (.int (best : Int)), .no] (wC (swapIf s best top))) := by
  by_cases e : best = top
  · refine ST.no (ET.to (ET.cm (EV.nm 4) (EV.nm 1) CS.neI) (by simp [e])) ?_
    unfold swapIf
    rw [if_pos e]
    exact SB.nil
  · refine ST.yes (ET.to (ET.cm (EV.nm 4) (EV.nm 1) CS.neI) (by simp; omega)) ?_
    unfold swapIf
    rw [if_neg e]
    exact SB.one (ST.exp (EV.methW (ds := [.int (best : Int), .int (top : Int)]) (ok_swap W) (EV.nm 0) (EA.cons (EV.nm 4) (EA.cons (EV.nm 1) EA.nil)) W.cls_Work ⟨s, best, top, by rw [h.r]; exact hb, by rw [h.r]; exact ht, by rw [h.r, h.t], by rw [h.r, h.b], rfl, rfl, rfl, rfl⟩ rfl hk))
theorem clear_turn {k : Nat} (W : Wd g) {s : WS} {n w top c : Nat} (h : Wf s n w) (ht : top < n) (hc : c < w) {o3 o4 : O} (hk : Nat.ble 1 k = true) :
    ST (CC g k) (wbody.getD 2 (.Pass ⟨0, 0, 0, 0⟩)) [oW, .dat (.int (top : Int)), .dat (.int (c : Int)), o3, o4, .no] (wC s) (.nx [oW, .dat (.int (top : Int)), .dat (.int (c : Int)), o3, o4, .no] (wC (turnIf s top c))) := by
  by_cases e : ent s top c < 0
  · refine ST.yes (ET.to (ET.cm (ev_ent W h rfl (EV.nm 0) (EV.nm 1) (EV.nm 2) ht hc) EV.int CS.ltI) (decide_eq_true e)) ?_
    unfold turnIf
    rw [if_pos e]
    exact SB.one (ST.exp (EV.methW (ds := [.int (top : Int)]) (ok_turn W) (EV.nm 0) (EA.cons (EV.nm 1) EA.nil) W.cls_Work ⟨s, top, by rw [h.r]; exact ht, by rw [h.r, h.t], by rw [h.r, h.b], h.small, rfl, rfl, rfl, rfl⟩ rfl hk))
  · refine ST.no (ET.to (ET.cm (ev_ent W h rfl (EV.nm 0) (EV.nm 1) (EV.nm 2) ht hc) EV.int CS.ltI) (decide_eq_false e)) ?_
    unfold turnIf
    rw [if_neg e]
    exact SB.nil
theorem clear_subs {k : Nat} (W : Wd g) {s : WS} {n w top c : Nat} (h : Wf s n w) (ht : top < n) (hc : c < w) {o3 o4 : O} (hp : ent s top c ≠ 0) (ok : subsOk s top c (top + 1) (n - (top + 1))) (hk : Nat.ble 32 k = true) (hk2 : Nat.ble 2 k = true) :
    ST (CC g k) (wbody.getD 3 (.Pass ⟨0, 0, 0, 0⟩)) [oW, .dat (.int (top : Int)), .dat (.int (c : Int)), o3, o4, .no] (wC s) (.nx [oW, .dat (.int (top : Int)), .dat (.int (c : Int)), o3, o4, .no] (wC (subs s top c (top + 1) (n - (top + 1))))) := by
  rw [← range_sub]
  refine ST.forN 5 (E_ := fun _ => [oW, .dat (.int (top : Int)), .dat (.int (c : Int)), o3, o4, .no]) (M_ := fun i => wC (subs s top c (top + 1) i)) (EI.rng2 (i := ((top + 1 : Nat) : Int)) (EV.to (EV.add (i := (top : Int)) (j := 1) (EV.nm 1) EV.int) rfl) (EV.to (EV.lenC (EV.rows W (EV.nm 0)) rfl W.b.len) (by rw [cel_len, h.r])) W.b.range (by have := h.n1; omega) (by have := h.n1; omega)) Fg.refl rfl (fun _ _ => True.intro) c_clear_column.nd (fun i hi => ?_)
  have hi' : top + 1 + i < n := by omega
  have hw := wf_subs (c := c) (lo := top + 1) h ht i (by omega)
  have et := ent_subs_top (c := c) (lo := top + 1) h ht (by omega) i (by omega)
  have e : atI0 (((top + 1 : Nat)) : Int) i = .dat (.int ((top + 1 + i : Nat) : Int)) := by
    unfold atI0
    rw [Int.natCast_add (top + 1) i]
  rw [e]
  refine ⟨[oW, .dat (.int (top : Int)), .dat (.int (c : Int)), o3, o4, .dat (.int ((top + 1 + i : Nat) : Int))], Fg.cons (Fg.cons (Fg.cons (Fg.cons (Fg.cons (Fg.no Fg.nil))))), ?_⟩
  exact SB.one (ST.exp (EV.methW (ds := [.int ((top + 1 + i : Nat) : Int), .int _, .int (top : Int)]) (ok_take W) (EV.nm 0) (EA.cons (EV.nm 5) (EA.cons (EV.bin (ev_ent W hw rfl (EV.nm 0) (EV.nm 5) (EV.nm 2) hi' hc) (ev_ent W hw rfl (EV.nm 0) (EV.nm 1) (EV.nm 2) ht hc) (BS.fdivX W.seer W.tree (by rw [et]; exact hp) hk)) (EA.cons (EV.nm 1) EA.nil))) W.cls_Work
    ⟨_, top + 1 + i, _, top, by rw [hw.r]; exact hi', by rw [hw.r]; exact ht, by rw [hw.r, hw.t], by rw [hw.r, hw.b], hw.small, ok i (by omega), rfl, rfl, rfl, rfl⟩ rfl hk2))
theorem ok_clear (W : Wd g) : FN g "clear_column" 33 clearR := by
  refine FN.mkC W.l_clear_column c_clear_column (fun _ _ _ _ _ _ us hl => match us, hl with | [_, _, _], _ => rfl) (fun os M o M' h => ?_) (fun os M o M' h => ?_)
  · obtain ⟨_, _, _, _, _, _, _, rfl, _⟩ := h
    rfl
  obtain ⟨s, n, w, top, c, m, ⟨hw, ht, hc, hm, hi⟩, rfl, rfl, rfl, rfl⟩ := h
  refine ⟨Nat.le_refl _, True.intro, lowW, .inr ⟨rfl, [oW, .dat (.int (top : Int)), .dat (.int (c : Int)), .dat (lN (itr s top c m).2), .no, .no], [], ?_⟩⟩
  refine SB.cons (clear_top W hw hc ht ⟨rfl, rfl⟩) (SB.one ?_)
  refine ST.while (E_ := fun i => [oW, .dat (.int (top : Int)), .dat (.int (c : Int)), .dat (lN (itr s top c i).2), .no, .no]) (M_ := fun i => wC (itr s top c i).1) (m := m) Fg.refl rfl (fun i him => ?_) ?_
  · obtain ⟨hne, ok⟩ := hi i him
    have hwi := wf_itr hw ht i fun j hj => (hi j (by omega)).1
    have hb := itr_mem i _ (bestAt_mem (c := c) (s := (itr s top c i).1) hne)
    rw [hwi.r] at hb
    have hlen : 0 < ((itr s top c i).2.length : Nat) := by
      cases h : (itr s top c i).2 with
      | nil => exact absurd h hne
      | cons a r => simp
    have hln : lenD (lN (itr s top c i).2) = some (itr s top c i).2.length := by
      show some (List.map _ _).length = _
      rw [List.length_map]
    have hwp := wf_prep (c := c) hwi ht hb.2.1
    refine ⟨wC (itr s top c i).1, [oW, .dat (.int (top : Int)), .dat (.int (c : Int)), .dat (lN (itr s top c (i + 1)).2), .dat (.int (bestAt (itr s top c i).1 c (itr s top c i).2 : Int)), .no], ET.to (ET.cm (EV.len (EV.nm 3) hln W.b.len) EV.int CS.gtI) (decide_eq_true (by omega)), Fg.cons (Fg.cons (Fg.cons (Fg.cons (Fg.no (Fg.cons Fg.nil))))), ?_⟩
    refine SB.cons (clear_min W hwi hc ht hne (fun a ha => by have := itr_mem i a ha; rw [hwi.r] at this; exact this.2.1)) (SB.cons (clear_swap W hwi ht hb.2.1 (by rfl)) (SB.cons (clear_turn W (wf_swapIf hwi ht hb.2.1) ht hc (by rfl)) ?_))
    have hp : ent (prep (itr s top c i).1 top c (bestAt (itr s top c i).1 c (itr s top c i).2)) top c ≠ 0 := by
      rw [ent_prep hwi ht hb.2.1]
      have := hb.2.2
      omega
    have eS : subs (prep (itr s top c i).1 top c (bestAt (itr s top c i).1 c (itr s top c i).2)) top c (top + 1) (n - (top + 1)) = (itr s top c (i + 1)).1 := by
      show _ = rnd _ top c _
      unfold rnd
      rw [hwi.r]
    have hS := clear_subs (k := 32) (o3 := .dat (lN (itr s top c i).2)) (o4 := .dat (.int (bestAt (itr s top c i).1 c (itr s top c i).2 : Int))) W hwp ht hc hp ok (by rfl) (by rfl)
    rw [eS] at hS
    refine SB.cons hS (SB.one ?_)
    have hw' := wf_itr hw ht (i + 1) fun j hj => (hi j (by omega)).1
    exact clear_low W hw' hc ht
  · have hln : lenD (lN (itr s top c m).2) = some 0 := by rw [hm]; rfl
    exact ET.to (ET.cm (EV.len (EV.nm 3) hln W.b.len) EV.int CS.gtI) (by decide)
end
end
section
section
theorem ST.augI {C : Cc} {E : List O} {M M' : Mem} {e : Expr} {p pos : Pos} {a b : Int} (i : Nat) {x : Str} (hE : E[i]? = some (.dat (.int a))) (h : EV C e E M (.dat (.int b)) M') (nd : C.N.Nodup) (hi : C.N[i]? = some x := by rfl) (hx : Loc C.sc x := by first | exact Or.inl rfl | exact Or.inr rfl)
    (hf : C.fn x = true ∨ C.sc.names.lookup x = some .local := by first | exact .inl rfl | exact .inr rfl) : ST C (.AugAssign (.Name x p) .Add e pos) E M (.nx (E.set i (.dat (.int (a + b)))) M') :=
  ST.mk (fun X hX => ps_aug (by rw [hX.N]; exact nd) (by rw [hX.N]; exact hi) (by rw [hX.sc]; exact hx) (ue hX e) ip_add (hf.elim (fun z => .inl (hX.fn x z)) (fun z => .inr (by rw [hX.sc]; exact z)))) fun I H adr σ D s q => by
    have hl : i < σ.length := by
      rw [← s.len]
      exact (List.getElem?_eq_some_iff.mp hE).1
    have h2 : σ[i]? = some σ[i] := List.getElem?_eq_getElem hl
    have h3 := s.slot i _ _ hE h2
    obtain ⟨v, hv⟩ : ∃ v, σ[i] = some v := by
      cases hv : σ[i] with
      | none =>
        rw [hv] at h3
        cases h3
      | some v => exact ⟨v, rfl⟩
    rw [hv] at h3 h2
    cases (show Rep I (.int a) v from h3)
    refine ⟨_, h2, h I H adr σ _ s fun w I1 H1 adr1 s1 g1 v1 => ?_⟩
    cases (show Rep I1 (.int b) w from v1)
    exact ⟨a, b, rfl, rfl, q I1 H1 adr1 _ (s1.set (o := .dat (.int (a + b))) (.int _)) g1⟩
end
section
variable {g : Pg}
/-- one column: m rounds -/
def colStep (u : WS × Nat) (n c m : Nat) : WS × Nat := if u.2 < n then (let s1 := (itr u.1 u.2 c m).1; if ent s1 u.2 c ≠ 0 then (subs s1 u.2 c 0 u.2, u.2 + 1) else (s1, u.2)) else u
def hw (a : List (List Int)) (mm : Nat → Nat) : Nat → WS × Nat
  | 0 => (wsOf a, 0)
  | c + 1 => colStep (hw a mm c) a.length c (mm c)
def hwOk (a : List (List Int)) (w : Nat) (mm : Nat → Nat) : Prop := ∀ c, c < w → (hw a mm c).2 < a.length → clearOk (hw a mm c).1 a.length w (hw a mm c).2 c (mm c) ∧
  (ent (itr (hw a mm c).1 (hw a mm c).2 c (mm c)).1 (hw a mm c).2 c ≠ 0 → subsOk (itr (hw a mm c).1 (hw a mm c).2 c (mm c)).1 (hw a mm c).2 c 0 (hw a mm c).2)
theorem ent_subs_top0 {s : WS} {n w top c : Nat} (h : Wf s n w) (ht : top < n) : ∀ k, k ≤ top → ent (subs s top c 0 k) top c = ent s top c
  | 0, _ => rfl
  | k + 1, hk => by
    show ent (sub1 top c _ _) top c = _
    unfold sub1
    rw [ent_take (wf_subs h ht k (by omega)) (by omega) ht (by omega)]
    exact ent_subs_top0 h ht k (by omega)
theorem wf_of {a : List (List Int)} (h : Mx a) : Wf (wsOf a) a.length (wd a) := by
  have hu : ∀ q ∈ unitM a.length, q.length = a.length := fun q hq => by
    obtain ⟨i, _, rfl⟩ := List.mem_map.mp hq
    rw [List.length_map, List.length_range]
  exact ⟨rfl, unit_len, unit_len, h.rect, hu, hu, h.l1, by have := h.l8; omega, by have := h.w8; omega⟩
theorem wf_col {s : WS} {n w top c m : Nat} (h : Wf s n w) (ho : top < n → clearOk s n w top c m) : Wf (colStep (s, top) n c m).1 n w := by
  unfold colStep
  split
  · rename_i ht
    obtain ⟨_, _, hc, hm, hi⟩ := ho ht
    have h1 : Wf (itr s top c m).1 n w := wf_itr h ht m fun j hj => (hi j hj).1
    show Wf (if ent (itr s top c m).1 top c ≠ 0 then _ else _ : WS × Nat).1 n w
    split
    · exact wf_subs h1 ht top (by show 0 + top ≤ n; have : top < n := ht; omega)
    · exact h1
  · exact h
theorem wf_hw {a : List (List Int)} {mm : Nat → Nat} (h : Mx a) (ok : hwOk a (wd a) mm) : ∀ c, c ≤ wd a → Wf (hw a mm c).1 a.length (wd a)
  | 0, _ => wf_of h
  | c + 1, hc => wf_col (s := (hw a mm c).1) (top := (hw a mm c).2) (wf_hw h ok c (by omega)) fun ht => (ok c (by omega) ht).1
theorem top_hw {a : List (List Int)} {mm : Nat → Nat} : ∀ c, (hw a mm c).2 ≤ a.length
  | 0 => Nat.zero_le _
  | c + 1 => by
    have ih := top_hw (a := a) (mm := mm) c
    show (colStep (hw a mm c) a.length c (mm c)).2 ≤ _
    unfold colStep
    split
    · show (if _ ≠ _ then _ else _ : WS × Nat).2 ≤ _
      split
      · show (hw a mm c).2 + 1 ≤ _
        omega
      · exact ih
    · exact ih
def hwaysR (d r : D) : Prop := ∃ a mm, Mx a ∧ hwOk a (wd a) mm ∧ d = tM a ∧ r = .tup [tM (hw a mm (wd a)).1.r, tM (hw a mm (wd a)).1.t, tM (flip (hw a mm (wd a)).1.b)]
theorem ok_hermite_ways (W : Wd g) : FN g "hermite_ways" 34 (P1 hwaysR) := by
  refine FN.mk2x W.t_hermite_ways c_hermite_ways (fun _ _ _ _ _ _ us hl => match us, hl with | [_], _ => rfl) (fun os M o M' h => ?_) (fun os M o M' h => ?_)
  · obtain ⟨d, r, rfl, _⟩ := h
    rfl
  obtain ⟨d, r, rfl, rfl, rfl, rfl, a, mm, hM, ok, rfl, rfl⟩ := h
  refine ⟨Nat.le_refl _, True.intro, LowM.nil, .inl ⟨wC (hw a mm (wd a)).1, ?_⟩⟩
  have n8 := hM.l8
  have w8 := hM.w8
  have E0 : SB (mkCd g n_hermite_ways s_hermite_ways 33 none) (defBody s_hermite_ways) (pad n_hermite_ways [.dat (tM a)]) [] (.rt (.dat (.tup [tM (hw a mm (wd a)).1.r, tM (hw a mm (wd a)).1.t, tM (flip (hw a mm (wd a)).1.b)])) (wC (hw a mm (wd a)).1)) := by
    refine SB.cons (E1 := [.dat (tM a), oW, .no, .no, .no, .no]) (M1 := wC (wsOf a)) (ST.to (ST.set 1 (EV.make (ι := []) (ok_Work W) (EA.cons (EV.nm 0) EA.nil) ⟨a, by omega, rfl, rfl, rfl, rfl⟩ rfl mixWn) c_hermite_ways.nd) rfl) ?_
    refine SB.cons (E1 := [.dat (tM a), oW, .dat (.int 0), .no, .no, .no]) (M1 := wC (wsOf a)) (ST.set 2 EV.int c_hermite_ways.nd) ?_
    refine SB.cons (E1 := [.dat (tM a), oW, .dat (.int ((hw a mm (wd a)).2 : Int)), .no, .no, .no]) (M1 := wC (hw a mm (wd a)).1) (ST.forN 3 (n := wd a) (E_ := fun c => [.dat (tM a), oW, .dat (.int ((hw a mm c).2 : Int)), .no, .no, .no]) (M_ := fun c => wC (hw a mm c).1)
      (EI.rng1 (j := (wd a : Int)) (EV.len (EV.ix (EV.nm 0) EV.int (ix_tM0 hM.ne)) len_tV W.b.len) W.b.range (by omega)) Fg.refl rfl (fun _ _ => True.intro) c_hermite_ways.nd (fun c hc => ?_)) ?_
    · have e : atI0 0 c = .dat (.int (c : Int)) := by
        unfold atI0
        rw [Int.zero_add]
      rw [e]
      have hw0 := wf_hw hM ok c (by omega)
      have hle : lenD (tM a) = some a.length := len_tM
      by_cases ht : (hw a mm c).2 < a.length
      · obtain ⟨hc1, hc2⟩ := ok c hc ht
        have hc3 := hc1
        obtain ⟨_, _, hcw, hm, hi⟩ := hc3
        have hw1 : Wf (itr (hw a mm c).1 (hw a mm c).2 c (mm c)).1 a.length (wd a) := wf_itr hw0 ht (mm c) fun j hj => (hi j hj).1
        have e1 : hw a mm (c + 1) = (if ent (itr (hw a mm c).1 (hw a mm c).2 c (mm c)).1 (hw a mm c).2 c ≠ 0 then (subs (itr (hw a mm c).1 (hw a mm c).2 c (mm c)).1 (hw a mm c).2 c 0 (hw a mm c).2, (hw a mm c).2 + 1) else ((itr (hw a mm c).1 (hw a mm c).2 c (mm c)).1, (hw a mm c).2)) := by
          show colStep (hw a mm c) a.length c (mm c) = _
          unfold colStep
          rw [if_pos ht]
        generalize hs1 : (itr (hw a mm c).1 (hw a mm c).2 c (mm c)).1 = s1 at hc2 hw1 e1
        generalize hp : ent s1 (hw a mm c).2 c = pv at e1 hc2
        refine ⟨[.dat (tM a), oW, .dat (.int ((hw a mm (c + 1)).2 : Int)), .dat (.int (c : Int)), .dat (.int pv), .no], Fg.cons (Fg.cons (Fg.cons (Fg.no (Fg.no (Fg.cons Fg.nil))))), SB.one ?_⟩
        refine ST.yes (ET.to (ET.cm (EV.nm 2) (EV.len (EV.nm 0) hle W.b.len) CS.ltI) (decide_eq_true (by omega))) ?_
        refine SB.cons (E1 := [.dat (tM a), oW, .dat (.int ((hw a mm c).2 : Int)), .dat (.int (c : Int)), .no, .no]) (M1 := wC s1) (ST.exp (EV.callW (ds := [.int ((hw a mm c).2 : Int), .int (c : Int)]) (d := .non) (s := (hw a mm c).1) (s' := s1) (ok_clear W) (EA.cons (EV.nm 1) (EA.cons (EV.nm 2) (EA.cons (EV.nm 3) EA.nil))) ⟨_, _, _, _, _, _, hc1, rfl, rfl, rfl, by rw [hs1]⟩)) ?_
        refine SB.cons (E1 := [.dat (tM a), oW, .dat (.int ((hw a mm c).2 : Int)), .dat (.int (c : Int)), .dat (.int pv), .no]) (M1 := wC s1) (ST.set 4 (EV.to (ev_ent W hw1 rfl (EV.nm 1) (EV.nm 2) (EV.nm 3) ht hcw) (by rw [hp])) c_hermite_ways.nd) (SB.one ?_)
        by_cases hz : pv = 0
        · rw [if_neg (fun z => z hz)] at e1
          rw [e1]
          exact ST.no (ET.to (ET.cm (EV.nm 4) EV.int CS.neI) (by simp [hz])) SB.nil
        · rw [if_pos hz] at e1
          rw [e1]
          refine ST.yes (ET.to (ET.cm (EV.nm 4) EV.int CS.neI) (by simp [hz])) ?_
          refine SB.cons (E1 := [.dat (tM a), oW, .dat (.int ((hw a mm c).2 : Int)), .dat (.int (c : Int)), .dat (.int pv), .no]) (M1 := wC (subs s1 (hw a mm c).2 c 0 (hw a mm c).2)) (ST.forN 5 (n := (hw a mm c).2) (E_ := fun _ => [.dat (tM a), oW, .dat (.int ((hw a mm c).2 : Int)), .dat (.int (c : Int)), .dat (.int pv), .no]) (M_ := fun k => wC (subs s1 (hw a mm c).2 c 0 k)) (EI.rng1 (j := ((hw a mm c).2 : Int)) (EV.nm 2) W.b.range (by omega)) Fg.refl rfl (fun _ _ => True.intro) c_hermite_ways.nd (fun k hk => ?_)) (SB.one (ST.to (ST.augI (a := ((hw a mm c).2 : Int)) (b := 1) 2 rfl EV.int c_hermite_ways.nd) rfl))
          have e : atI0 0 k = .dat (.int (k : Int)) := by
            unfold atI0
            rw [Int.zero_add]
          rw [e]
          have hk' : k < (hw a mm c).2 := hk
          have hwk := wf_subs (c := c) (lo := 0) hw1 ht k (by omega)
          have etk := ent_subs_top0 (c := c) hw1 ht k (by omega)
          have okk := hc2 hz k hk'
          rw [etk, hp, Nat.zero_add] at okk
          refine ⟨[.dat (tM a), oW, .dat (.int ((hw a mm c).2 : Int)), .dat (.int (c : Int)), .dat (.int pv), .dat (.int (k : Int))], Fg.cons (Fg.cons (Fg.cons (Fg.cons (Fg.cons (Fg.no Fg.nil))))), ?_⟩
          refine SB.one (ST.exp (EV.methW (ds := [.int (k : Int), .int _, .int ((hw a mm c).2 : Int)]) (d := .non) (s' := subs s1 (hw a mm c).2 c 0 (k + 1)) (ok_take W) (EV.nm 1) (EA.cons (EV.nm 5) (EA.cons (EV.bin (ev_ent W hwk rfl (EV.nm 1) (EV.nm 5) (EV.nm 3) (by omega) hcw) (EV.nm 4) (BS.fdivX W.seer W.tree hz)) (EA.cons (EV.nm 2) EA.nil))) W.cls_Work
            ⟨_, k, _, (hw a mm c).2, by rw [hwk.r]; omega, by rw [hwk.r]; exact ht, by rw [hwk.r, hwk.t], by rw [hwk.r, hwk.b], hwk.small, okk, rfl, rfl, rfl, ?_⟩))
          show wC (sub1 _ _ _ _) = _
          unfold sub1
          rw [etk, hp, Nat.zero_add]
      · have e1 : hw a mm (c + 1) = hw a mm c := by
          show colStep (hw a mm c) a.length c (mm c) = _
          unfold colStep
          rw [if_neg ht]
        rw [e1]
        exact ⟨[.dat (tM a), oW, .dat (.int ((hw a mm c).2 : Int)), .dat (.int (c : Int)), .no, .no], Fg.cons (Fg.cons (Fg.cons (Fg.no (Fg.cons (Fg.cons Fg.nil))))), SB.one (ST.no (ET.to (ET.cm (EV.nm 2) (EV.len (EV.nm 0) hle W.b.len) CS.ltI) (decide_eq_false (by omega))) SB.nil)⟩
    · have hwe := wf_hw hM ok (wd a) (Nat.le_refl _)
      have hbne : (hw a mm (wd a)).1.b ≠ [] := fun z => by
        have := hwe.b
        rw [z] at this
        have := hwe.n0
        simp at *
        omega
      have hwdb : wd (hw a mm (wd a)).1.b = a.length := by
        have hbw := hwe.bw
        generalize (hw a mm (wd a)).1.b = bb at hbne hbw
        cases bb with
        | nil => exact absurd rfl hbne
        | cons q r => exact hbw q List.mem_cons_self
      exact SB.one (ST.ret (methW0 (ok_ways W) (EV.nm 1) W.cls_Work ⟨_, by rw [hwe.r]; omega, by rw [hwe.t]; omega, by rw [hwe.b]; omega, hbne, fun q hq => by rw [hwdb]; exact hwe.bw q hq, by rw [hwdb]; omega, rfl, rfl, rfl, rfl⟩))
  exact E0
end
/-! ### numbers stay small enough -/
section
theorem bits_le2 {i : Int} {a : Nat} (h : i.natAbs ≤ 2 ^ a) : Builtin.Int.intBits i ≤ a + 1 := by
  unfold Builtin.Int.intBits
  split
  · omega
  · rename_i hi
    have h0 : i.natAbs ≠ 0 := fun z => by
      have : i = 0 := Int.natAbs_eq_zero.mp z
      rw [this] at hi
      exact hi rfl
    have := (Nat.log2_lt h0).mpr (Nat.lt_of_le_of_lt h (Nat.pow_lt_pow_right (by omega) (Nat.lt_succ_self a)))
    omega
theorem mulOk_bits {i j : Int} {a b : Nat} (h1 : i.natAbs ≤ 2 ^ a) (h2 : j.natAbs ≤ 2 ^ b) (h : a + b + 2 ≤ 134217728) : IntMulOk i j := by
  have e1 := bits_le2 h1
  have e2 := bits_le2 h2
  unfold IntMulOk
  have : Builtin.Int.intTooBig ((Builtin.Int.intBits i : Nat) + (Builtin.Int.intBits j : Nat) : Int) = false := by
    unfold Builtin.Int.intTooBig
    refine decide_eq_false ?_
    show ¬ (((Builtin.Int.intBits i : Nat) : Int) + (Builtin.Int.intBits j : Nat) > ((2 ^ 27 : Nat) : Int))
    have : (2 ^ 27 : Nat) = 134217728 := by decide
    omega
  rw [this, Bool.and_false]
  exact Bool.false_ne_true
/-- the number at a place of a list of rows, 0 where there is none -/
def gE (l : List (List Int)) (i j : Nat) : Int := (l.getD i []).getD j 0
theorem ent_gE {s : WS} {i j : Nat} : ent s i j = gE s.r i j := rfl
theorem gE_set {l : List (List Int)} {i a j : Nat} {v : List Int} (h : i < l.length) : gE (l.set i v) a j = if a = i then v.getD j 0 else gE l a j := by
  unfold gE
  by_cases e : a = i
  · subst e
    rw [if_pos rfl, List.getD_eq_getElem?_getD (l := l.set a v), List.getElem?_set_self h]
    rfl
  · rw [if_neg e, List.getD_eq_getElem?_getD (l := l.set i v), List.getElem?_set_ne (fun z => e z.symm), ← List.getD_eq_getElem?_getD]
theorem lessV_getD {v w : List Int} {k : Int} {j : Nat} (h : v.length = w.length) : (lessV v k w).getD j 0 = v.getD j 0 - k * w.getD j 0 := by
  unfold lessV
  simp only [List.getD_eq_getElem?_getD, List.getElem?_map]
  by_cases hj : j < v.length
  · have hj' : j < (v.zip w).length := by rw [List.length_zip]; omega
    rw [List.getElem?_eq_getElem hj', List.getElem?_eq_getElem hj, List.getElem?_eq_getElem (show j < w.length by omega), List.getElem_zip]
    rfl
  · rw [List.getElem?_eq_none (by rw [List.length_zip]; omega), List.getElem?_eq_none (by omega), List.getElem?_eq_none (by omega)]
    simp
theorem gE_take {l : List (List Int)} {i j a b u : Nat} {k : Int} (hi : i < l.length) (hj : j < l.length) (hu : ∀ q ∈ l, q.length = u) : gE (takeL l i k j) a b = if a = i then gE l i b - k * gE l j b else gE l a b := by
  unfold takeL
  rw [gE_set hi, lessV_getD (by rw [hu _ (mem_getD hi), hu _ (mem_getD hj)])]
  rfl
theorem gE_neg {l : List (List Int)} {i a b : Nat} (hi : i < l.length) : gE (negL l i) a b = if a = i then - gE l i b else gE l a b := by
  unfold negL
  rw [gE_set hi, getD_map_neg]
  rfl
theorem gE_swap {l : List (List Int)} {i j a b : Nat} (hi : i < l.length) (hj : j < l.length) : gE (swapL l i j) a b = if a = j then gE l i b else if a = i then gE l j b else gE l a b := by
  unfold swapL
  rw [gE_set (by rw [List.length_set]; exact hj), gE_set hi]
  rfl
theorem gE_all {l : List (List Int)} {i : Nat} {P : Int → Prop} (h : ∀ j, P (gE l i j)) : ∀ y ∈ l.getD i [], P y := fun y hy => by
  obtain ⟨j, hj, e⟩ := List.getElem_of_mem hy
  have := h j
  unfold gE at this
  rw [List.getD_eq_getElem?_getD (l := l.getD i []), List.getElem?_eq_getElem hj, e] at this
  exact this
theorem ent_take' {s : WS} {n w i j a b : Nat} {k : Int} (h : Wf s n w) (hi : i < n) (hj : j < n) : ent (s.take i k j) a b = if a = i then ent s i b - k * ent s j b else ent s a b := gE_take (by rw [h.r]; exact hi) (by rw [h.r]; exact hj) h.rw
/-- the takes of a row of places, at once -/
theorem ent_subs {s : WS} {n w top c lo : Nat} (h : Wf s n w) (ht : top < n) : ∀ k, lo + k ≤ n → (top < lo ∨ lo + k ≤ top) → ∀ a b, ent (subs s top c lo k) a b = if lo ≤ a ∧ a < lo + k then ent s a b - (ent s a c).fdiv (ent s top c) * ent s top b else ent s a b
  | 0, _, _, a, b => by
    rw [if_neg (by omega)]
    rfl
  | k + 1, hk, hd, a, b => by
    have ih := ent_subs (c := c) (lo := lo) h ht k (by omega) (by omega)
    have hw := wf_subs (c := c) (lo := lo) h ht k (by omega)
    show ent (sub1 top c _ _) a b = _
    unfold sub1
    rw [ent_take' hw (by omega) ht]
    have e1 : ∀ b, ent (subs s top c lo k) (lo + k) b = ent s (lo + k) b := fun b => by rw [ih, if_neg (by omega)]
    have e2 : ∀ b, ent (subs s top c lo k) top b = ent s top b := fun b => by rw [ih, if_neg (by omega)]
    rw [e1, e1, e2, e2]
    by_cases ha : a = lo + k
    · subst ha
      rw [if_pos rfl, if_pos (by omega)]
    · rw [if_neg ha, ih]
      by_cases hb : lo ≤ a ∧ a < lo + k
      · rw [if_pos hb, if_pos (by omega)]
      · rw [if_neg hb, if_neg (by omega)]
def ZB (s : WS) (Z : Nat) : Prop := ∀ i j, (gE s.t i j).natAbs ≤ Z ∧ (gE s.b i j).natAbs ≤ Z
theorem abs_less {x y k : Int} {Z f : Nat} (hx : x.natAbs ≤ Z) (hy : y.natAbs ≤ Z) (hk : k.natAbs + 1 ≤ f) : (x - k * y).natAbs ≤ Z * f := by
  have h1 : (x - k * y).natAbs ≤ x.natAbs + (k * y).natAbs := by omega
  rw [Int.natAbs_mul] at h1
  have h2 : k.natAbs * y.natAbs ≤ k.natAbs * Z := Nat.mul_le_mul_left _ hy
  have h3 : Z * (k.natAbs + 1) ≤ Z * f := Nat.mul_le_mul_left _ hk
  rw [Nat.mul_add, Nat.mul_one, Nat.mul_comm Z] at h3
  omega
theorem ZB.mono {s : WS} {Z Z' : Nat} (h : ZB s Z) (hz : Z ≤ Z') : ZB s Z' := fun i j => ⟨Nat.le_trans (h i j).1 hz, Nat.le_trans (h i j).2 hz⟩
theorem ZB.take {s : WS} {n w i j Z f : Nat} {k : Int} (h : Wf s n w) (z : ZB s Z) (hi : i < n) (hj : j < n) (hk : k.natAbs + 1 ≤ f) : ZB (s.take i k j) (Z * f) := fun a b => by
  have hf : Z ≤ Z * f := Nat.le_mul_of_pos_right _ (by omega)
  refine ⟨?_, ?_⟩
  · show (gE (takeL s.t i k j) a b).natAbs ≤ _
    rw [gE_take (by rw [h.t]; exact hi) (by rw [h.t]; exact hj) h.tw]
    split
    · exact abs_less (z i b).1 (z j b).1 hk
    · exact Nat.le_trans (z a b).1 hf
  · show (gE (takeL s.b j (-k) i) a b).natAbs ≤ _
    rw [gE_take (by rw [h.b]; exact hj) (by rw [h.b]; exact hi) h.bw]
    split
    · exact abs_less (z j b).2 (z i b).2 (by rw [Int.natAbs_neg]; exact hk)
    · exact Nat.le_trans (z a b).2 hf
theorem ZB.swap {s : WS} {n w i j Z : Nat} (h : Wf s n w) (z : ZB s Z) (hi : i < n) (hj : j < n) : ZB (s.swap i j) Z := fun a b => by
  refine ⟨?_, ?_⟩
  · show (gE (swapL s.t i j) a b).natAbs ≤ _
    rw [gE_swap (by rw [h.t]; exact hi) (by rw [h.t]; exact hj)]
    split
    · exact (z _ _).1
    · split
      · exact (z _ _).1
      · exact (z _ _).1
  · show (gE (swapL s.b i j) a b).natAbs ≤ _
    rw [gE_swap (by rw [h.b]; exact hi) (by rw [h.b]; exact hj)]
    split
    · exact (z _ _).2
    · split
      · exact (z _ _).2
      · exact (z _ _).2
theorem ZB.turn {s : WS} {n w i Z : Nat} (h : Wf s n w) (z : ZB s Z) (hi : i < n) : ZB (s.turn i) Z := fun a b => by
  refine ⟨?_, ?_⟩
  · show (gE (negL s.t i) a b).natAbs ≤ _
    rw [gE_neg (by rw [h.t]; exact hi)]
    split
    · rw [Int.natAbs_neg]; exact (z _ _).1
    · exact (z _ _).1
  · show (gE (negL s.b i) a b).natAbs ≤ _
    rw [gE_neg (by rw [h.b]; exact hi)]
    split
    · rw [Int.natAbs_neg]; exact (z _ _).2
    · exact (z _ _).2
theorem ZB.subs {s : WS} {n w top c lo Z f : Nat} (h : Wf s n w) (ht : top < n) (z : ZB s Z) : ∀ k, lo + k ≤ n → (top < lo ∨ lo + k ≤ top) → (∀ a, lo ≤ a → a < lo + k → ((ent s a c).fdiv (ent s top c)).natAbs + 1 ≤ f) → ZB (Ab.subs s top c lo k) (Z * f ^ k)
  | 0, _, _, _ => by rw [Nat.pow_zero, Nat.mul_one]; exact z
  | k + 1, hk, hd, hf => by
    have ih := ZB.subs (lo := lo) (c := c) h ht z k (by omega) (by omega) fun a h1 h2 => hf a h1 (by omega)
    have hw := wf_subs (c := c) (lo := lo) h ht k (by omega)
    have e := ent_subs (c := c) (lo := lo) h ht k (by omega : lo + k ≤ n) (by omega)
    rw [Nat.pow_succ, ← Nat.mul_assoc]
    refine ZB.take hw ih (by omega) ht ?_
    rw [e, e, if_neg (by omega), if_neg (by omega)]
    exact hf (lo + k) (by omega) (by omega)
theorem ZB.swapIf {s : WS} {n w top best Z : Nat} (h : Wf s n w) (z : ZB s Z) (ht : top < n) (hb : best < n) : ZB (Ab.swapIf s best top) Z := by
  unfold Ab.swapIf
  split
  · exact z
  · exact z.swap h hb ht
theorem ZB.prep {s : WS} {n w top c best Z : Nat} (h : Wf s n w) (z : ZB s Z) (ht : top < n) (hb : best < n) : ZB (Ab.prep s top c best) Z := by
  unfold Ab.prep turnIf
  split
  · exact (z.swapIf h ht hb).turn (wf_swapIf h ht hb) ht
  · exact z.swapIf h ht hb
/-- the numbers behind the exchange and the turn -/
theorem ent_prep_ne {s : WS} {n w top c best a b : Nat} (h : Wf s n w) (ht : top < n) (hb : best < n) (ha : a ≠ top) : ent (prep s top c best) a b = if a = best then ent s top b else ent s a b := by
  have e1 : ent (swapIf s best top) a b = if a = best then ent s top b else ent s a b := by
    unfold swapIf
    by_cases e : best = top
    · rw [if_pos e]
      by_cases e2 : a = best
      · rw [if_pos e2, e2, e]
      · rw [if_neg e2]
    · rw [if_neg e]
      show gE (swapL s.r best top) a b = _
      rw [gE_swap (by rw [h.r]; exact hb) (by rw [h.r]; exact ht), if_neg ha]
      rfl
  rw [← e1]
  unfold prep turnIf
  split
  · show gE (negL _ top) a b = _
    rw [gE_neg (by rw [(wf_swapIf h ht hb).r]; exact ht), if_neg ha]
    rfl
  · rfl
theorem ent_prep_top {s : WS} {n w top c best b : Nat} (h : Wf s n w) (ht : top < n) (hb : best < n) : (ent (prep s top c best) top b).natAbs = (ent s best b).natAbs := by
  have e1 : ent (swapIf s best top) top b = ent s best b := by
    unfold swapIf
    by_cases e : best = top
    · rw [if_pos e, e]
    · rw [if_neg e]
      show gE (swapL s.r best top) top b = _
      rw [gE_swap (by rw [h.r]; exact hb) (by rw [h.r]; exact ht), if_pos rfl]
      rfl
  rw [← e1]
  unfold prep turnIf
  split
  · show (gE (negL _ top) top b).natAbs = _
    rw [gE_neg (by rw [(wf_swapIf h ht hb).r]; exact ht), if_pos rfl, Int.natAbs_neg]
    rfl
  · rfl
end
end
section
section
theorem best_min {s : WS} {c : Nat} {l : List Nat} {a : Nat} (ha : a ∈ l) : (ent s (bestAt s c l) c).natAbs ≤ (ent s a c).natAbs := by
  obtain ⟨j, hj, rfl⟩ := List.getElem_of_mem ha
  have hb := bestI_ok (ka := fun j => ((ent s (l.getD j 0) c).natAbs : Int)) (kb := fun j => (l.getD j 0 : Int)) (l.length - 1) j (by omega)
  have h := hb.1
  unfold kLess at h
  have e : l.getD j 0 = l[j] := by rw [List.getD_eq_getElem?_getD, List.getElem?_eq_getElem hj]; rfl
  dsimp only at h
  rw [e] at h
  show (ent s (l.getD (bestI (fun j => ((ent s (l.getD j 0) c).natAbs : Int)) (fun j => (l.getD j 0 : Int)) (l.length - 1)) 0) c).natAbs ≤ _
  omega
theorem fdiv_mod {x : Int} {p : Nat} : x - x.fdiv (p : Int) * (p : Int) = x % (p : Int) := by
  have h := Int.mul_fdiv_add_fmod x p
  rw [Int.fmod_eq_emod_of_nonneg x (Int.natCast_nonneg p)] at h
  rw [Int.mul_comm]
  omega
/-- a round seen from its numbers -/
theorem rnd_ent {s : WS} {n w top c : Nat} {l : List Nat} (h : Wf s n w) (ht : top < n) (hb : bestAt s c l < n) : ∀ a j, ent (rnd s top c l) a j = if top < a ∧ a < n then ent (prep s top c (bestAt s c l)) a j - (ent (prep s top c (bestAt s c l)) a c).fdiv ((ent s (bestAt s c l) c).natAbs : Int) * ent (prep s top c (bestAt s c l)) top j else ent (prep s top c (bestAt s c l)) a j := fun a j => by
  unfold rnd
  rw [h.r, ent_subs (lo := top + 1) (wf_prep h ht hb) ht _ (by omega) (by omega), ent_prep h ht hb]
  by_cases ha : top < a ∧ a < n
  · rw [if_pos ha, if_pos (by omega)]
  · rw [if_neg ha, if_neg (by omega)]
structure Euc (s0 u : WS) (n w top c B Z F X : Nat) : Prop where
  wf : Wf u n w
  tp : ent u top c = (X : Int)
  X0 : 0 < X
  low : ∀ a, top < a → a < n → 0 ≤ ent u a c ∧ ent u a c < (X : Int)
  rb : ∀ a, top ≤ a → ∀ j, (ent u a j).natAbs ≤ B * F
  zb : ZB u (Z * F ^ 7)
  abv : ∀ a, a < top → ∀ j, ent u a j = ent s0 a j
  F0 : 0 < F
  fin : F ≤ 6 * B ^ 3
  pot : ∀ P : Nat, (∀ a, top < a → a < n → ent u a c ≠ 0 → (P : Int) ≤ ent u a c) → (∃ a, top < a ∧ a < n ∧ ent u a c ≠ 0) → F * X ^ 2 * P ≤ 3 * B ^ 3
theorem subs_ok {s : WS} {n w top c lo Z f eq er ez : Nat} (h : Wf s n w) (ht : top < n) {k : Nat} (hk : lo + k ≤ n) (hd : top < lo ∨ lo + k ≤ top) (hn : k ≤ 7) (hq : ∀ a, lo ≤ a → a < lo + k → ((ent s a c).fdiv (ent s top c)).natAbs + 1 ≤ f) (hf : f ≤ 2 ^ eq) (hr : ∀ j, (ent s top j).natAbs ≤ 2 ^ er) (z : ZB s Z) (hz : Z * f ^ 7 ≤ 2 ^ ez) (h1 : eq + er + 2 ≤ 134217728) (h2 : eq + ez + 2 ≤ 134217728) : subsOk s top c lo k := fun i hi => by
  have e := ent_subs (c := c) (lo := lo) h ht i (by omega) (by omega)
  have q1 := hq (lo + i) (by omega) (by omega)
  have zz := ZB.subs (lo := lo) (c := c) h ht z i (by omega) (by omega) fun a g1 g2 => hq a g1 (by omega)
  have f1 : 1 ≤ f := by omega
  have zle : Z * f ^ i ≤ 2 ^ ez := Nat.le_trans (Nat.mul_le_mul_left _ (Nat.pow_le_pow_right f1 (by omega))) hz
  have kq : ((ent (subs s top c lo i) (lo + i) c).fdiv (ent (subs s top c lo i) top c)).natAbs ≤ 2 ^ eq := by
    rw [e, e, if_neg (by omega), if_neg (by omega)]
    omega
  refine ⟨gE_all fun j => ?_, gE_all fun j => ?_, gE_all fun j => ?_⟩
  · refine mulOk_bits kq ?_ h1
    show (ent (subs s top c lo i) top j).natAbs ≤ _
    rw [e, if_neg (by omega)]
    exact hr j
  · exact mulOk_bits kq (Nat.le_trans (zz _ _).1 zle) h2
  · exact mulOk_bits (by rw [Int.natAbs_neg]; exact kq) (Nat.le_trans (zz _ _).2 zle) h2
theorem pow7 {Z F f k : Nat} (hf : 0 < f) (hk : k ≤ 7) : Z * F ^ 7 * f ^ k ≤ Z * (F * f) ^ 7 := by
  rw [Nat.mul_pow, ← Nat.mul_assoc]
  exact Nat.mul_le_mul_left _ (Nat.pow_le_pow_right hf hk)
theorem euc_pot {p X P : Nat} (hp : 0 < p) (hpX : p < X) (h : (X % p ≠ 0 ∧ P ≤ X % p) ∨ (X % p = 0 ∧ P < p)) : (p + X) * P ≤ X ^ 2 := by
  have hd := Nat.div_add_mod X p
  have h1 : 1 ≤ X / p := (Nat.le_div_iff_mul_le hp).mpr (by omega)
  rw [Nat.pow_two]
  rcases h with ⟨h0, hP⟩ | ⟨h0, hP⟩
  · have hx : P ≤ X - p := by
      have : p * 1 ≤ p * (X / p) := Nat.mul_le_mul_left p h1
      omega
    obtain ⟨d, rfl⟩ : ∃ d, X = p + d := ⟨X - p, by omega⟩
    have : P ≤ d := by omega
    calc (p + (p + d)) * P ≤ (p + (p + d)) * d := Nat.mul_le_mul_left _ this
      _ ≤ (p + d) * (p + d) := by
        have : (p + (p + d)) * d = p * d + (p * d + d * d) := by rw [Nat.add_mul, Nat.add_mul]
        have e2 : (p + d) * (p + d) = p * p + p * d + (d * p + d * d) := by rw [Nat.add_mul, Nat.mul_add, Nat.mul_add]
        have e3 : d * p = p * d := Nat.mul_comm _ _
        omega
  · have h2 : 2 ≤ X / p := by
      rcases Nat.lt_or_ge (X / p) 2 with h | h
      · have e : X / p = 1 := by omega
        rw [e] at hd
        omega
      · exact h
    have h3 : p * 2 ≤ X := by
      have : p * 2 ≤ p * (X / p) := Nat.mul_le_mul_left p h2
      omega
    calc (p + X) * P ≤ (p + X) * p := Nat.mul_le_mul_left _ (Nat.le_of_lt hP)
      _ ≤ X * X := by
        obtain ⟨d, rfl⟩ : ∃ d, X = p + d := ⟨X - p, by omega⟩
        have hd : p ≤ d := by omega
        have e1 : (p + (p + d)) * p = p * p + (p * p + d * p) := by rw [Nat.add_mul, Nat.add_mul]
        have e2 : (p + d) * (p + d) = p * p + p * d + (d * p + d * d) := by rw [Nat.add_mul, Nat.mul_add, Nat.mul_add]
        have e3 : p * p ≤ p * d := Nat.mul_le_mul_left p hd
        omega
end
section
theorem div_le {q p x R : Nat} (hp : 0 < p) (h : (q + 1) * p ≤ R) : q + 1 ≤ R / p := (Nat.le_div_iff_mul_le hp).mpr h
theorem fdiv_small {x : Int} {p : Nat} (hp : 0 < p) : (x.fdiv (p : Int)).natAbs * p ≤ x.natAbs + (p - 1) := by
  have h := fdiv_mod (x := x) (p := p)
  have h1 := Int.emod_nonneg x (show (p : Int) ≠ 0 by omega)
  have h2 := Int.emod_lt_of_pos x (show (0 : Int) < (p : Int) by omega)
  have e : ((x.fdiv (p : Int)).natAbs * p : Nat) = ((x.fdiv (p : Int)) * (p : Int)).natAbs := by
    rw [Int.natAbs_mul, Int.natAbs_natCast]
  rw [e]
  omega
theorem fdiv_pos {x : Int} {p : Nat} (hp : 0 < p) (hx : 0 ≤ x) : (x.fdiv (p : Int)).natAbs * p ≤ x.natAbs := by
  have h := fdiv_mod (x := x) (p := p)
  have h1 := Int.emod_nonneg x (show (p : Int) ≠ 0 by omega)
  have h0 : 0 ≤ x.fdiv (p : Int) := Int.fdiv_nonneg hx (by omega)
  have e : ((x.fdiv (p : Int)).natAbs * p : Nat) = ((x.fdiv (p : Int)) * (p : Int)).natAbs := by
    rw [Int.natAbs_mul, Int.natAbs_natCast]
  rw [e]
  have h3 : 0 ≤ x.fdiv (p : Int) * (p : Int) := Int.mul_nonneg h0 (by omega)
  omega
/-- one round: the new numbers, by a factor f of the quotients -/
theorem round {s0 u : WS} {n w top c B Z F f R : Nat} {l : List Nat} (hw : Wf u n w) (ht : top < n) (hn : n ≤ 8) (hl : l ≠ []) (hm : ∀ a ∈ l, top ≤ a ∧ a < n ∧ ent u a c ≠ 0) (rb : ∀ a, top ≤ a → ∀ j, (ent u a j).natAbs ≤ B * F) (zb : ZB u (Z * F ^ 7)) (abv : ∀ a, a < top → ∀ j, ent u a j = ent s0 a j) (F0 : 0 < F)
    (hq : ∀ a, top < a → a < n → ((ent (prep u top c (bestAt u c l)) a c).fdiv ((ent u (bestAt u c l) c).natAbs : Int)).natAbs + 1 ≤ f) (f0 : 0 < f) :
    Wf (rnd u top c l) n w ∧ ent (rnd u top c l) top c = ((ent u (bestAt u c l) c).natAbs : Int) ∧ (∀ a, top < a → a < n → ent (rnd u top c l) a c = ent (prep u top c (bestAt u c l)) a c % ((ent u (bestAt u c l) c).natAbs : Int)) ∧ (∀ a, top ≤ a → ∀ j, (ent (rnd u top c l) a j).natAbs ≤ B * (F * f)) ∧ ZB (rnd u top c l) (Z * (F * f) ^ 7) ∧ (∀ a, a < top → ∀ j, ent (rnd u top c l) a j = ent s0 a j) := by
  have hb := hm _ (bestAt_mem (s := u) (c := c) hl)
  have hwp := wf_prep (c := c) hw ht hb.2.1
  have re := rnd_ent (c := c) (l := l) hw ht hb.2.1
  have ep := ent_prep (c := c) hw ht hb.2.1
  have pn : ∀ a, a ≠ top → ∀ j, ent (prep u top c (bestAt u c l)) a j = if a = bestAt u c l then ent u top j else ent u a j := fun a ha j => ent_prep_ne hw ht hb.2.1 ha
  have pb : ∀ a, top ≤ a → ∀ j, (ent (prep u top c (bestAt u c l)) a j).natAbs ≤ B * F := fun a ha j => by
    by_cases e : a = top
    · subst e
      rw [ent_prep_top hw ht hb.2.1]
      exact rb _ hb.1 j
    · rw [pn a e]
      split
      · exact rb _ (Nat.le_refl _) j
      · exact rb a ha j
  refine ⟨?_, ?_, fun a h1 h2 => ?_, fun a ha j => ?_, ?_, fun a ha j => ?_⟩
  · unfold rnd
    rw [hw.r]
    exact wf_subs hwp ht _ (by omega)
  · rw [re, if_neg (by omega), ep]
  · rw [re, if_pos ⟨h1, h2⟩, ep, fdiv_mod]
  · rw [re, ← Nat.mul_assoc]
    split
    · rename_i h
      exact abs_less (pb a ha j) (pb top (Nat.le_refl _) j) (hq a h.1 h.2)
    · exact Nat.le_trans (pb a ha j) (Nat.le_mul_of_pos_right _ f0)
  · unfold rnd
    rw [hw.r]
    refine (ZB.subs (lo := top + 1) (c := c) (f := f) hwp ht (zb.prep hw ht hb.2.1) (n - (top + 1)) (by omega) (by omega) fun a g1 g2 => ?_).mono (pow7 f0 (by omega))
    rw [ep]
    exact hq a (by omega) (by omega)
  · rw [re, if_neg (by omega), pn a (by omega), if_neg (by omega)]
    exact abv a ha j
theorem Euc.step {s0 u : WS} {n w top c B Z F X : Nat} (h : Euc s0 u n w top c B Z F X) (ht : top < n) (hn : n ≤ 8) (hne : bl u (top + 1) c ≠ []) :
    ∃ F' X', X' < X ∧ F ≤ F' ∧ Euc s0 (rnd u top c (bl u (top + 1) c)) n w top c B Z F' X' ∧ ∀ a, top < a → a < n → ((ent (prep u top c (bestAt u c (bl u (top + 1) c))) a c).fdiv ((ent u (bestAt u c (bl u (top + 1) c)) c).natAbs : Int)).natAbs + 1 ≤ F' / F := by
  have hl : ∀ a ∈ bl u (top + 1) c, top ≤ a ∧ a < n ∧ ent u a c ≠ 0 := fun a ha => by
    have := bl_mem.mp ha
    rw [h.wf.r] at this
    exact ⟨by omega, this.2⟩
  have hb0 := bl_mem.mp (bestAt_mem (s := u) (c := c) hne)
  rw [h.wf.r] at hb0
  generalize hbb : bestAt u c (bl u (top + 1) c) = bb at hb0 ⊢
  have hlow := h.low bb (by omega) hb0.2.1
  obtain ⟨p, hp⟩ : ∃ p : Nat, (ent u bb c).natAbs = p := ⟨_, rfl⟩
  have hpe : ent u bb c = (p : Int) := by omega
  have hp0 : 0 < p := by have := hb0.2.2; omega
  have hpX : p < X := by omega
  have hmin : ∀ a, top < a → a < n → ent u a c ≠ 0 → (p : Int) ≤ ent u a c := fun a h1 h2 h3 => by
    have := best_min (s := u) (c := c) (l := bl u (top + 1) c) (bl_mem.mpr ⟨by omega, by rw [h.wf.r]; exact h2, h3⟩)
    rw [hbb, hp] at this
    have := (h.low a h1 h2).1
    omega
  have hpot := h.pot p hmin ⟨bb, by omega, hb0.2.1, hb0.2.2⟩
  have pn : ∀ a, a ≠ top → ∀ j, ent (prep u top c bb) a j = if a = bb then ent u top j else ent u a j := fun a ha j => ent_prep_ne h.wf ht hb0.2.1 ha
  have prange : ∀ a, top < a → a < n → 0 ≤ ent (prep u top c bb) a c ∧ ent (prep u top c bb) a c ≤ (X : Int) := fun a h1 h2 => by
    rw [pn a (by omega)]
    split
    · rw [h.tp]; omega
    · have := h.low a h1 h2; omega
  have f1 : 1 ≤ (p + X) / p := (Nat.le_div_iff_mul_le hp0).mpr (by omega)
  have fp : (p + X) / p * p ≤ p + X := Nat.div_mul_le_self _ _
  have hq : ∀ a, top < a → a < n → ((ent (prep u top c bb) a c).fdiv (p : Int)).natAbs + 1 ≤ (p + X) / p := fun a h1 h2 => by
    have := prange a h1 h2
    refine div_le (x := 0) hp0 ?_
    have := fdiv_pos (x := ent (prep u top c bb) a c) hp0 this.1
    rw [Nat.add_mul, Nat.one_mul]
    omega
  have rr := round (s0 := s0) (f := (p + X) / p) (R := 0) (l := bl u (top + 1) c) (c := c) h.wf ht hn hne hl h.rb h.zb h.abv h.F0 (by rw [hbb, hp]; exact hq) f1
  rw [hbb, hp] at rr
  obtain ⟨r1, r2, r3, r4, r5, r6⟩ := rr
  refine ⟨F * ((p + X) / p), p, hpX, Nat.le_mul_of_pos_right _ f1, ⟨r1, r2, hp0, fun a h1 h2 => ?_, r4, r5, r6, Nat.mul_pos h.F0 f1, ?_, fun P hP hex => ?_⟩, fun a h1 h2 => ?_⟩
  · rw [r3 a h1 h2]
    exact ⟨Int.emod_nonneg _ (by omega), Int.emod_lt_of_pos _ (by omega)⟩
  · have e1 : (p + X) / p ≤ 2 * X := Nat.le_trans (Nat.div_le_self _ _) (by omega)
    have e2 : X ≤ X ^ 2 * p := by
      rw [Nat.pow_two, Nat.mul_assoc]
      exact Nat.le_mul_of_pos_right _ (Nat.mul_pos h.X0 hp0)
    calc F * ((p + X) / p) ≤ F * (2 * X) := Nat.mul_le_mul_left _ e1
      _ ≤ F * (2 * (X ^ 2 * p)) := Nat.mul_le_mul_left _ (Nat.mul_le_mul_left _ e2)
      _ = 2 * (F * X ^ 2 * p) := by rw [Nat.mul_left_comm, Nat.mul_assoc]
      _ ≤ 6 * B ^ 3 := by omega
  · have hPp : P < p := by
      obtain ⟨a, h1, h2, h3⟩ := hex
      have := hP a h1 h2 h3
      rw [r3 a h1 h2] at this
      have := Int.emod_lt_of_pos (ent (prep u top c bb) a c) (show (0 : Int) < (p : Int) by omega)
      omega
    have key : (p + X) * P ≤ X ^ 2 := by
      refine euc_pot hp0 hpX ?_
      by_cases h0 : X % p = 0
      · exact .inr ⟨h0, hPp⟩
      · refine .inl ⟨h0, ?_⟩
        have e : ent (rnd u top c (bl u (top + 1) c)) bb c = ((X % p : Nat) : Int) := by
          rw [r3 bb (by omega) hb0.2.1, pn bb (by omega), if_pos rfl, h.tp]
          exact (Int.natCast_emod X p).symm
        have := hP bb (by omega) hb0.2.1 (by rw [e]; omega)
        rw [e] at this
        omega
    calc F * ((p + X) / p) * p ^ 2 * P = F * p * P * ((p + X) / p * p) := by
          rw [Nat.pow_two]
          simp only [Nat.mul_assoc, Nat.mul_left_comm, Nat.mul_comm]
      _ ≤ F * p * P * (p + X) := Nat.mul_le_mul_left _ fp
      _ = F * p * ((p + X) * P) := by simp only [Nat.mul_assoc, Nat.mul_left_comm, Nat.mul_comm]
      _ ≤ F * p * X ^ 2 := Nat.mul_le_mul_left _ key
      _ = F * X ^ 2 * p := by simp only [Nat.mul_assoc, Nat.mul_left_comm, Nat.mul_comm]
      _ ≤ 3 * B ^ 3 := hpot
  · rw [hp, Nat.mul_div_cancel_left _ h.F0]
    exact hq a h1 h2
end
section
/-- what lets all products through -/
structure Szs (B Z eB eZ : Nat) : Prop where
  b : 6 * B ^ 3 ≤ 2 ^ eB
  r : B * (6 * B ^ 3) ≤ 2 ^ eB
  z : Z * (6 * B ^ 3) ^ 7 ≤ 2 ^ eZ
  s1 : eB + eB + 2 ≤ 134217728
  s2 : eB + eZ + 2 ≤ 134217728
theorem rnd_ok {u : WS} {n w top c B Z F f eB eZ best : Nat} (S : Szs B Z eB eZ) (hw : Wf u n w) (ht : top < n) (hn : n ≤ 8) (hb : best < n) (htb : top ≤ best) (rb : ∀ a, top ≤ a → ∀ j, (ent u a j).natAbs ≤ B * F) (zb : ZB u (Z * F ^ 7)) (F0 : 0 < F) (f0 : 0 < f)
    (hq : ∀ a, top < a → a < n → ((ent (prep u top c best) a c).fdiv ((ent u best c).natAbs : Int)).natAbs + 1 ≤ f) (hF : F * f ≤ 6 * B ^ 3) : subsOk (prep u top c best) top c (top + 1) (n - (top + 1)) := by
  have hFF : F ≤ 6 * B ^ 3 := Nat.le_trans (Nat.le_mul_of_pos_right _ f0) hF
  have hf : f ≤ 6 * B ^ 3 := Nat.le_trans (Nat.le_mul_of_pos_left _ F0) hF
  refine subs_ok (Z := Z * F ^ 7) (f := f) (eq := eB) (er := eB) (ez := eZ) (wf_prep hw ht hb) ht (by omega) (by omega) (by omega) (fun a h1 h2 => by rw [ent_prep hw ht hb]; exact hq a (by omega) (by omega)) (Nat.le_trans hf S.b) (fun j => ?_) (zb.prep hw ht hb) ?_ S.s1 S.s2
  · rw [ent_prep_top hw ht hb]
    exact Nat.le_trans (rb best htb j) (Nat.le_trans (Nat.mul_le_mul_left _ hFF) S.r)
  · refine Nat.le_trans (pow7 f0 (Nat.le_refl 7)) (Nat.le_trans (Nat.mul_le_mul_left _ (Nat.pow_le_pow_left hF 7)) S.z)
theorem euc_run {s : WS} {n w top c B Z eB eZ : Nat} (S : Szs B Z eB eZ) (ht : top < n) (hn : n ≤ 8) : ∀ (X i F : Nat), Euc s (itr s top c i).1 n w top c B Z F X → (itr s top c i).2 = bl (itr s top c i).1 (top + 1) c →
    ∃ m F' X', i ≤ m ∧ (itr s top c m).2 = [] ∧ (∀ j, i ≤ j → j < m → (itr s top c j).2 ≠ [] ∧ subsOk (prep (itr s top c j).1 top c (bestAt (itr s top c j).1 c (itr s top c j).2)) top c (top + 1) (n - (top + 1))) ∧ Euc s (itr s top c m).1 n w top c B Z F' X' ∧ (itr s top c m).2 = bl (itr s top c m).1 (top + 1) c := fun X => by
  induction X using Nat.strongRecOn with
  | _ X ih =>
    intro i F h hl
    by_cases hne : (itr s top c i).2 = []
    · exact ⟨i, F, X, Nat.le_refl _, hne, fun j h1 h2 => by omega, h, hl⟩
    · have hne' : bl (itr s top c i).1 (top + 1) c ≠ [] := hl ▸ hne
      obtain ⟨F', X', hX, hF, h', hq⟩ := h.step ht hn hne'
      rw [← hl] at h' hq
      obtain ⟨m, F2, X2, hm, hm2, hm3, hm4, hm5⟩ := ih X' hX (i + 1) F' h' rfl
      refine ⟨m, F2, X2, by omega, hm2, fun j h1 h2 => ?_, hm4, hm5⟩
      by_cases e : j = i
      · subst e
        refine ⟨hne, ?_⟩
        have hb := itr_mem j _ (bestAt_mem (s := (itr s top c j).1) (c := c) hne)
        rw [h.wf.r] at hb
        refine rnd_ok (f := F' / F) S h.wf ht hn hb.2.1 hb.1 h.rb h.zb h.F0 ?_ hq ?_
        · exact (Nat.le_div_iff_mul_le h.F0).mpr (by omega)
        · exact Nat.le_trans (Nat.mul_div_le F' F) h'.fin
      · exact hm3 j (by omega) h2
/-- a column's end -/
structure ColEnd (s s' : WS) (n w top c B Z : Nat) : Prop where
  wf : Wf s' n w
  tp : 0 ≤ ent s' top c
  low : ∀ a, top < a → a < n → ent s' a c = 0
  rb : ∀ a, top ≤ a → ∀ j, (ent s' a j).natAbs ≤ B * (6 * B ^ 3)
  zb : ZB s' (Z * (6 * B ^ 3) ^ 7)
  abv : ∀ a, a < top → ∀ j, ent s' a j = ent s a j
theorem bl_nil {s : WS} {n w lo c : Nat} (h : Wf s n w) (hl : bl s lo c = []) : ∀ a, lo ≤ a → a < n → ent s a c = 0 := fun a h1 h2 => by
  by_cases e : ent s a c = 0
  · exact e
  · have := (bl_mem (s := s) (lo := lo) (c := c) (at_ := a)).mpr ⟨h1, by rw [h.r]; exact h2, e⟩
    rw [hl] at this
    simp at this
theorem col_ok {s : WS} {n w top c B Z eB eZ : Nat} (S : Szs B Z eB eZ) (h : Wf s n w) (ht : top < n) (hc : c < w) (hn : n ≤ 8) (B0 : 0 < B) (rb : ∀ a, top ≤ a → ∀ j, (ent s a j).natAbs ≤ B) (zb : ZB s Z) :
    ∃ m, clearOk s n w top c m ∧ ColEnd s (itr s top c m).1 n w top c B Z := by
  have B3 : 1 ≤ 6 * B ^ 3 := Nat.mul_pos (by decide) (Nat.pow_pos B0)
  by_cases hne : bl s top c = []
  · refine ⟨0, ⟨h, ht, hc, hne, fun i hi => by omega⟩, h, ?_, fun a h1 h2 => bl_nil h hne a (by omega) h2, fun a ha j => Nat.le_trans (rb a ha j) (Nat.le_mul_of_pos_right _ B3), zb.mono (Nat.le_mul_of_pos_right _ (Nat.pow_pos B3)), fun _ _ _ => rfl⟩
    show 0 ≤ ent s top c
    rw [bl_nil h hne top (Nat.le_refl _) ht]
    exact Int.le_refl 0
  · have hl : ∀ a ∈ bl s top c, top ≤ a ∧ a < n ∧ ent s a c ≠ 0 := fun a ha => by
      have := bl_mem.mp ha
      rw [h.r] at this
      exact this
    have hb0 := hl _ (bestAt_mem (s := s) (c := c) hne)
    obtain ⟨p, hp⟩ : ∃ p : Nat, (ent s (bestAt s c (bl s top c)) c).natAbs = p := ⟨_, rfl⟩
    have hp0 : 0 < p := by have := hb0.2.2; omega
    have hpB : p ≤ B := by rw [← hp]; exact rb _ hb0.1 c
    have hmin : ∀ a, top ≤ a → a < n → ent s a c ≠ 0 → p ≤ (ent s a c).natAbs := fun a h1 h2 h3 => by
      rw [← hp]
      exact best_min (bl_mem.mpr ⟨h1, by rw [h.r]; exact h2, h3⟩)
    have pn : ∀ a, a ≠ top → ∀ j, ent (prep s top c (bestAt s c (bl s top c))) a j = if a = bestAt s c (bl s top c) then ent s top j else ent s a j := fun a ha j => ent_prep_ne h ht hb0.2.1 ha
    have pr : ∀ a, top < a → a < n → (ent (prep s top c (bestAt s c (bl s top c))) a c).natAbs ≤ B ∧ (ent (prep s top c (bestAt s c (bl s top c))) a c ≠ 0 → p ≤ (ent (prep s top c (bestAt s c (bl s top c))) a c).natAbs) := fun a h1 h2 => by
      rw [pn a (by omega)]
      split
      · exact ⟨rb _ (Nat.le_refl _) c, fun z => hmin _ (Nat.le_refl _) ht z⟩
      · exact ⟨rb a (by omega) c, fun z => hmin a (by omega) h2 z⟩
    have f1 : 1 ≤ 3 * B / p := (Nat.le_div_iff_mul_le hp0).mpr (by omega)
    have hq : ∀ a, top < a → a < n → ((ent (prep s top c (bestAt s c (bl s top c))) a c).fdiv (p : Int)).natAbs + 1 ≤ 3 * B / p := fun a h1 h2 => by
      have h3 := pr a h1 h2
      refine div_le (x := 0) hp0 ?_
      have := fdiv_small (x := ent (prep s top c (bestAt s c (bl s top c))) a c) hp0
      rw [Nat.add_mul, Nat.one_mul]
      omega
    have rr := round (s0 := s) (F := 1) (B := B) (Z := Z) (f := 3 * B / p) (R := 0) (l := bl s top c) (c := c) h ht hn hne hl (by simpa using rb) (by simpa using zb) (fun _ _ _ => rfl) (by decide) (by rw [hp]; exact hq) f1
    rw [hp, Nat.one_mul] at rr
    obtain ⟨r1, r2, r3, r4, r5, r6⟩ := rr
    have fB : 3 * B / p * p ≤ 3 * B := Nat.div_mul_le_self _ _
    have f2 : 3 * B / p ≤ 3 * B := Nat.div_le_self _ _
    have B2 : B ≤ B ^ 3 := by
      rw [Nat.pow_succ]
      exact Nat.le_mul_of_pos_left _ (Nat.pow_pos B0)
    have E1 : Euc s (itr s top c 1).1 n w top c B Z (3 * B / p) p := by
      refine ⟨r1, r2, hp0, fun a h1 h2 => ?_, r4, r5, r6, f1, by omega, fun P hP hex => ?_⟩
      · show 0 ≤ ent (rnd s top c (bl s top c)) a c ∧ ent (rnd s top c (bl s top c)) a c < _
        rw [r3 a h1 h2]
        exact ⟨Int.emod_nonneg _ (by omega), Int.emod_lt_of_pos _ (by omega)⟩
      · have hPp : P ≤ B := by
          obtain ⟨a, h1, h2, h3⟩ := hex
          have h4 := hP a h1 h2 h3
          have e : ent (itr s top c 1).1 a c = _ := r3 a h1 h2
          rw [e] at h4
          have := Int.emod_lt_of_pos (ent (prep s top c (bestAt s c (bl s top c))) a c) (show (0 : Int) < (p : Int) by omega)
          omega
        calc 3 * B / p * p ^ 2 * P = 3 * B / p * p * (p * P) := by
              rw [Nat.pow_two]
              simp only [Nat.mul_assoc, Nat.mul_left_comm, Nat.mul_comm]
          _ ≤ 3 * B * (p * P) := Nat.mul_le_mul_right _ fB
          _ ≤ 3 * B * (B * B) := Nat.mul_le_mul_left _ (Nat.mul_le_mul hpB hPp)
          _ = 3 * B ^ 3 := by
            rw [show B ^ 3 = B * B * B by rw [Nat.pow_succ, Nat.pow_two]]
            simp only [Nat.mul_assoc]
    obtain ⟨m, F', X', hm, hm2, hm3, hm4, hm5⟩ := euc_run S ht hn p 1 (3 * B / p) E1 rfl
    refine ⟨m, ⟨h, ht, hc, hm2, fun i hi => ?_⟩, hm4.wf, by rw [hm4.tp]; omega, fun a h1 h2 => bl_nil hm4.wf (hm5 ▸ hm2) a (by omega) h2, fun a ha j => Nat.le_trans (hm4.rb a ha j) (Nat.mul_le_mul_left _ hm4.fin), hm4.zb.mono (Nat.mul_le_mul_left _ (Nat.pow_le_pow_left hm4.fin 7)), hm4.abv⟩
    by_cases e : i = 0
    · subst e
      refine ⟨hne, ?_⟩
      show subsOk (prep s top c (bestAt s c (bl s top c))) top c (top + 1) (n - (top + 1))
      refine rnd_ok (F := 1) (f := 3 * B / p) S h ht hn hb0.2.1 hb0.1 (by simpa using rb) (by simpa using zb) (by decide) f1 (by rw [hp]; exact hq) ?_
      rw [Nat.one_mul]
      omega
    · exact hm3 i (by omega) hi
end
end
section
section
/-- by steps -/
inductive Reach (n w : Nat) (s0 : WS) : WS → Prop
  | refl : Reach n w s0 s0
  | swap {s : WS} {i j : Nat} (h : Reach n w s0 s) (hw : Wf s n w) (hi : i < n) (hj : j < n) (hij : i ≠ j) : Reach n w s0 (s.swap i j)
  | turn {s : WS} {i : Nat} (h : Reach n w s0 s) (hw : Wf s n w) (hi : i < n) : Reach n w s0 (s.turn i)
  | take {s : WS} {i j : Nat} {k : Int} (h : Reach n w s0 s) (hw : Wf s n w) (hi : i < n) (hj : j < n) (hij : i ≠ j) : Reach n w s0 (s.take i k j)
theorem Reach.trans {n w : Nat} {s0 s1 s2 : WS} (h : Reach n w s0 s1) (h2 : Reach n w s1 s2) : Reach n w s0 s2 := by
  induction h2 with
  | refl => exact h
  | swap _ hw hi hj hij ih => exact ih.swap hw hi hj hij
  | turn _ hw hi ih => exact ih.turn hw hi
  | take _ hw hi hj hij ih => exact ih.take hw hi hj hij
theorem reach_prep {s : WS} {n w top c best : Nat} (h : Wf s n w) (ht : top < n) (hb : best < n) : Reach n w s (prep s top c best) := by
  have h1 : Reach n w s (swapIf s best top) := by
    unfold swapIf
    split
    · exact .refl
    · rename_i e
      exact Reach.refl.swap h hb ht e
  unfold prep turnIf
  split
  · exact h1.turn (wf_swapIf h ht hb) ht
  · exact h1
theorem reach_subs {s : WS} {n w top c lo : Nat} (h : Wf s n w) (ht : top < n) : ∀ k, lo + k ≤ n → (top < lo ∨ lo + k ≤ top) → Reach n w s (subs s top c lo k)
  | 0, _, _ => .refl
  | k + 1, hk, hd => (reach_subs h ht k (by omega) (by omega)).take (wf_subs h ht k (by omega)) (by omega) ht (by omega)
theorem reach_itr {s : WS} {n w top c : Nat} (h : Wf s n w) (ht : top < n) : ∀ i, (∀ j, j < i → (itr s top c j).2 ≠ []) → Reach n w s (itr s top c i).1
  | 0, _ => .refl
  | i + 1, hj => by
    have hw := wf_itr (c := c) h ht i fun j hj' => hj j (by omega)
    have hb := itr_mem i _ (bestAt_mem (c := c) (s := (itr s top c i).1) (hj i (by omega)))
    rw [hw.r] at hb
    refine ((reach_itr h ht i fun j hj' => hj j (by omega)).trans (reach_prep (c := c) hw ht hb.2.1)).trans ?_
    show Reach n w _ (rnd _ top c _)
    unfold rnd
    rw [hw.r]
    exact reach_subs (wf_prep hw ht hb.2.1) ht _ (by omega) (by omega)
/-- zeros of a column stay -/
theorem itr_zero {s : WS} {n w top c j : Nat} (h : Wf s n w) (ht : top < n) (hz : ∀ a, top ≤ a → ent s a j = 0) : ∀ i, (∀ k, k < i → (itr s top c k).2 ≠ []) → ∀ a, top ≤ a → ent (itr s top c i).1 a j = 0
  | 0, _ => hz
  | i + 1, hk => by
    have hw := wf_itr (c := c) h ht i fun j hj' => hk j (by omega)
    have ih := itr_zero h ht hz i fun j hj' => hk j (by omega)
    have hb := itr_mem i _ (bestAt_mem (c := c) (s := (itr s top c i).1) (hk i (by omega)))
    rw [hw.r] at hb
    have pz : ∀ a, top ≤ a → ent (prep (itr s top c i).1 top c (bestAt (itr s top c i).1 c (itr s top c i).2)) a j = 0 := fun a ha => by
      by_cases e : a = top
      · subst e
        have := ent_prep_top (c := c) (b := j) hw ht hb.2.1
        rw [ih _ hb.1] at this
        exact Int.natAbs_eq_zero.mp this
      · rw [ent_prep_ne hw ht hb.2.1 e]
        split
        · exact ih _ (Nat.le_refl _)
        · exact ih a ha
    intro a ha
    show ent (rnd _ top c _) a j = 0
    rw [rnd_ent hw ht hb.2.1, pz a ha, pz top (Nat.le_refl _)]
    split <;> simp
/-- numbers outside are 0 -/
theorem ent_out {s : WS} {n w i j : Nat} (h : Wf s n w) (hi : n ≤ i) : ent s i j = 0 := by
  unfold ent
  rw [List.getD_eq_getElem?_getD (l := s.r), List.getElem?_eq_none (by rw [h.r]; exact hi)]
  rfl
/-- the form of the columns behind -/
structure Ech (s : WS) (n top c : Nat) (pc : Nat → Nat) : Prop where
  lt : ∀ i, i < top → pc i < c
  inc : ∀ i j, i < j → j < top → pc i < pc j
  left : ∀ i, i < top → ∀ j, j < pc i → ent s i j = 0
  pos : ∀ i, i < top → 0 < ent s i (pc i)
  abv : ∀ k i, k < i → i < top → 0 ≤ ent s k (pc i) ∧ ent s k (pc i) < ent s i (pc i)
  low : ∀ i, top ≤ i → ∀ j, j < c → ent s i j = 0
theorem Ech.next {s : WS} {n w top c m B Z : Nat} {pc : Nat → Nat} (e : Ech s n top c pc) (h : Wf s n w) (ho : clearOk s n w top c m) (ce : ColEnd s (itr s top c m).1 n w top c B Z) :
    ∃ pc', Ech (colStep (s, top) n c m).1 n (colStep (s, top) n c m).2 (c + 1) pc' := by
  obtain ⟨_, ht, hc, hm, hir⟩ := ho
  have z := fun j hj => itr_zero (c := c) (j := j) h ht (fun a ha => e.low a ha j hj) m fun k hk => (hir k hk).1
  unfold colStep
  rw [if_pos ht]
  show ∃ pc', Ech (if ent (itr s top c m).1 top c ≠ 0 then (subs (itr s top c m).1 top c 0 top, top + 1) else ((itr s top c m).1, top) : WS × Nat).1 n (if ent (itr s top c m).1 top c ≠ 0 then (subs (itr s top c m).1 top c 0 top, top + 1) else ((itr s top c m).1, top) : WS × Nat).2 (c + 1) pc'
  generalize hs1 : (itr s top c m).1 = u at ce z
  have lowc : ∀ i, top < i → ent u i c = 0 := fun i h1 => by
    by_cases h2 : i < n
    · exact ce.low i h1 h2
    · exact ent_out ce.wf (by omega)
  by_cases hp : ent u top c = 0
  · rw [if_neg (fun z => z hp)]
    refine ⟨pc, fun i hi => Nat.lt_succ_of_lt (e.lt i hi), e.inc, fun i hi j hj => by rw [ce.abv i hi]; exact e.left i hi j hj, fun i hi => by rw [ce.abv i hi]; exact e.pos i hi, fun k i hk hi => by rw [ce.abv i hi, ce.abv k (by omega)]; exact e.abv k i hk hi, fun i hi j hj => ?_⟩
    by_cases hjc : j < c
    · exact z j hjc i hi
    · have : j = c := by omega
      subst this
      by_cases hit : i = top
      · rw [hit]; exact hp
      · exact lowc i (by show top < i; have : top ≤ i := hi; omega)
  · rw [if_pos hp]
    have pv : 0 < ent u top c := by have := ce.tp; omega
    have es := ent_subs (c := c) (lo := 0) ce.wf ht top (by omega) (.inr (by omega))
    have eb : ∀ a, top ≤ a → ∀ b, ent (subs u top c 0 top) a b = ent u a b := fun a ha b => by rw [es, if_neg (by omega)]
    have ea : ∀ a, a < top → ∀ b, b < c → ent (subs u top c 0 top) a b = ent s a b := fun a ha b hb => by
      rw [es, if_pos (by omega), z b hb top (Nat.le_refl _), Int.mul_zero, Int.sub_zero, ce.abv a ha]
    refine ⟨fun i => if i = top then c else pc i, fun i hi => ?_, fun i j hij hj => ?_, fun i hi j hj => ?_, fun i hi => ?_, fun k i hk hi => ?_, fun i hi j hj => ?_⟩
    · show (if i = top then c else pc i) < c + 1
      split
      · omega
      · have := e.lt i (by have : i < top + 1 := hi; omega)
        omega
    · have hj' : j < top + 1 := hj
      show (if i = top then c else pc i) < (if j = top then c else pc j)
      rw [if_neg (by omega)]
      split
      · exact e.lt i (by omega)
      · exact e.inc i j hij (by omega)
    · have hi' : i < top + 1 := hi
      have hj' : j < (if i = top then c else pc i) := hj
      show ent (subs u top c 0 top) i j = 0
      by_cases hit : i = top
      · rw [if_pos hit] at hj'
        rw [hit, eb top (Nat.le_refl _)]
        exact z j hj' top (Nat.le_refl _)
      · rw [if_neg hit] at hj'
        have := e.lt i (by omega)
        rw [ea i (by omega) j (by omega)]
        exact e.left i (by omega) j hj'
    · have hi' : i < top + 1 := hi
      show 0 < ent (subs u top c 0 top) i (if i = top then c else pc i)
      by_cases hit : i = top
      · rw [if_pos hit, hit, eb top (Nat.le_refl _)]
        exact pv
      · rw [if_neg hit, ea i (by omega) _ (e.lt i (by omega))]
        exact e.pos i (by omega)
    · have hi' : i < top + 1 := hi
      show 0 ≤ ent (subs u top c 0 top) k (if i = top then c else pc i) ∧ ent (subs u top c 0 top) k (if i = top then c else pc i) < ent (subs u top c 0 top) i (if i = top then c else pc i)
      by_cases hit : i = top
      · rw [if_pos hit, hit, eb top (Nat.le_refl _), es, if_pos (by omega)]
        obtain ⟨p, hpe⟩ : ∃ p : Nat, ent u top c = (p : Int) := ⟨(ent u top c).toNat, by omega⟩
        rw [hpe, fdiv_mod]
        exact ⟨Int.emod_nonneg _ (by omega), Int.emod_lt_of_pos _ (by omega)⟩
      · rw [if_neg hit, ea k (by omega) _ (e.lt i (by omega)), ea i (by omega) _ (e.lt i (by omega))]
        exact e.abv k i hk (by omega)
    · have hi' : top + 1 ≤ i := hi
      show ent (subs u top c 0 top) i j = 0
      rw [eb i (by omega)]
      by_cases hjc : j < c
      · exact z j hjc i (by omega)
      · have : j = c := by omega
        subst this
        exact lowc i (by omega)
end
section
def nb : Nat → Nat × Nat × Nat
  | 0 => (20, 20, 0)
  | c + 1 => let u := nb c; (4 * u.1 + 3, u.2.1 + (4 * u.1 + 3) + 1, u.2.2 + 7 * (3 * u.1 + 3) + 7 * (u.2.1 + 1))
theorem nb_ok : ∀ c, c < 8 → (4 * (nb c).1 + 3) + (4 * (nb c).1 + 3) + 2 ≤ 134217728 ∧ (4 * (nb c).1 + 3) + ((nb c).2.2 + 7 * (3 * (nb c).1 + 3)) + 2 ≤ 134217728 ∧ ((nb c).2.1 + 1) + (4 * (nb c).1 + 3) + 2 ≤ 134217728 ∧ ((nb c).2.1 + 1) + ((nb c).2.2 + 7 * (3 * (nb c).1 + 3) + 7 * ((nb c).2.1 + 1)) + 2 ≤ 134217728 := by decide
structure Cst (a : List (List Int)) (c : Nat) (u : WS × Nat) : Prop where
  wf : Wf u.1 a.length (wd a)
  tp : u.2 ≤ a.length
  rch : Reach a.length (wd a) (wsOf a) u.1
  ech : ∃ pc, Ech u.1 a.length u.2 c pc
  rb : ∀ i, u.2 ≤ i → ∀ j, (ent u.1 i j).natAbs ≤ 2 ^ (nb c).1
  ab : ∀ i j, (ent u.1 i j).natAbs ≤ 2 ^ (nb c).2.1
  zb : ZB u.1 (2 ^ (nb c).2.2)
theorem six {b : Nat} : 6 * (2 ^ b) ^ 3 ≤ 2 ^ (3 * b + 3) := by
  rw [← Nat.pow_mul, Nat.pow_add, Nat.mul_comm b 3]
  have : 0 < 2 ^ (3 * b) := Nat.pow_pos (by decide)
  omega
theorem szs_of {b z : Nat} (h1 : (4 * b + 3) + (4 * b + 3) + 2 ≤ 134217728) (h2 : (4 * b + 3) + (z + 7 * (3 * b + 3)) + 2 ≤ 134217728) : Szs (2 ^ b) (2 ^ z) (4 * b + 3) (z + 7 * (3 * b + 3)) := by
  refine ⟨Nat.le_trans six (Nat.pow_le_pow_right (by decide) (by omega)), ?_, ?_, h1, h2⟩
  · calc 2 ^ b * (6 * (2 ^ b) ^ 3) ≤ 2 ^ b * 2 ^ (3 * b + 3) := Nat.mul_le_mul_left _ six
      _ = 2 ^ (4 * b + 3) := by rw [← Nat.pow_add]; congr 1; omega
  · calc 2 ^ z * (6 * (2 ^ b) ^ 3) ^ 7 ≤ 2 ^ z * (2 ^ (3 * b + 3)) ^ 7 := Nat.mul_le_mul_left _ (Nat.pow_le_pow_left six 7)
      _ = 2 ^ (z + 7 * (3 * b + 3)) := by rw [← Nat.pow_mul, ← Nat.pow_add, Nat.mul_comm (3 * b + 3) 7]
theorem fdiv_le {x : Int} {p : Nat} (hp : 0 < p) : (x.fdiv (p : Int)).natAbs ≤ x.natAbs := by
  have h := fdiv_small (x := x) hp
  rcases Nat.lt_or_ge x.natAbs (x.fdiv (p : Int)).natAbs with h1 | h1
  · have h2 : (x.natAbs + 1) * p ≤ (x.fdiv (p : Int)).natAbs * p := Nat.mul_le_mul_right _ h1
    rw [Nat.add_mul, Nat.one_mul] at h2
    have h3 : x.natAbs ≤ x.natAbs * p := Nat.le_mul_of_pos_right _ hp
    omega
  · exact h1
theorem Cst.zero {a : List (List Int)} (h : Mx a) : Cst a 0 (wsOf a, 0) := by
  have hb : ∀ i j, (ent (wsOf a) i j).natAbs ≤ 2 ^ 20 := fun i j => by
    show ((a.getD i []).getD j 0).natAbs ≤ _
    by_cases hi : i < a.length
    · by_cases hj : j < (a.getD i []).length
      · have := h.num _ (mem_getD hi) _ (mem_getD (a0 := 0) hj)
        have e : (2 : Nat) ^ 20 = 1048576 := by decide
        omega
      · rw [List.getD_eq_getElem?_getD (l := a.getD i []), List.getElem?_eq_none (by omega)]
        exact Nat.zero_le _
    · rw [List.getD_eq_getElem?_getD (l := a), List.getElem?_eq_none (by omega)]
      exact Nat.zero_le _
  have hu : ∀ n i j, (gE (unitM n) i j).natAbs ≤ 1 := fun n i j => by
    unfold gE unitM
    by_cases hi : i < n
    · rw [List.getD_eq_getElem?_getD (l := List.map _ _), List.getElem?_map, List.getElem?_range hi]
      show (List.getD (List.map (fun j => if j = i then (1 : Int) else 0) (List.range n)) j 0).natAbs ≤ 1
      by_cases hj : j < n
      · rw [List.getD_eq_getElem?_getD, List.getElem?_map, List.getElem?_range hj]
        show (if j = i then (1 : Int) else 0).natAbs ≤ 1
        split <;> decide
      · rw [List.getD_eq_getElem?_getD, List.getElem?_eq_none (by rw [List.length_map, List.length_range]; omega)]
        decide
    · rw [List.getD_eq_getElem?_getD (l := List.map _ _), List.getElem?_eq_none (by rw [List.length_map, List.length_range]; omega)]
      simp
  exact ⟨wf_of h, Nat.zero_le _, .refl, ⟨fun _ => 0, fun i hi => absurd hi (Nat.not_lt_zero i), fun i j _ hj => absurd hj (Nat.not_lt_zero j), fun i hi => absurd hi (Nat.not_lt_zero i), fun i hi => absurd hi (Nat.not_lt_zero i), fun k i _ hi => absurd hi (Nat.not_lt_zero i), fun i _ j hj => absurd hj (Nat.not_lt_zero j)⟩, fun i _ j => hb i j, hb, fun i j => ⟨hu _ i j, hu _ i j⟩⟩
theorem Ech.more {s : WS} {n w top c : Nat} {pc : Nat → Nat} (e : Ech s n top c pc) (h : Wf s n w) (ht : n ≤ top) : Ech s n top (c + 1) pc :=
  ⟨fun i hi => Nat.lt_succ_of_lt (e.lt i hi), e.inc, e.left, e.pos, e.abv, fun i hi j _ => ent_out h (by omega)⟩
theorem Cst.next {a : List (List Int)} {c : Nat} {u : WS × Nat} (h : Mx a) (hc : c < wd a) (st : Cst a c u) : ∃ m, (u.2 < a.length → clearOk u.1 a.length (wd a) u.2 c m ∧ (ent (itr u.1 u.2 c m).1 u.2 c ≠ 0 → subsOk (itr u.1 u.2 c m).1 u.2 c 0 u.2)) ∧ Cst a (c + 1) (colStep u a.length c m) := by
  have l8 := h.l8
  have w8 := h.w8
  obtain ⟨s, top⟩ := u
  obtain ⟨n1, n2, n3, n4⟩ := nb_ok c (by omega)
  obtain ⟨⟨b, az, z⟩, hnb⟩ : ∃ q, nb c = q := ⟨_, rfl⟩
  rw [hnb] at n1 n2 n3 n4
  have wf := st.wf
  have rb := st.rb
  have ab := st.ab
  have zb := st.zb
  rw [hnb] at rb ab zb
  dsimp only at n1 n2 n3 n4 wf rb ab zb
  have hnb' : nb (c + 1) = (4 * b + 3, az + (4 * b + 3) + 1, z + 7 * (3 * b + 3) + 7 * (az + 1)) := by
    show (4 * (nb c).1 + 3, (nb c).2.1 + (4 * (nb c).1 + 3) + 1, (nb c).2.2 + 7 * (3 * (nb c).1 + 3) + 7 * ((nb c).2.1 + 1)) = _
    rw [hnb]
  obtain ⟨pc, ech⟩ := st.ech
  by_cases ht : top < a.length
  · obtain ⟨m, ok, ce⟩ := col_ok (szs_of n1 n2) wf ht hc (by omega) (Nat.pow_pos (by decide)) rb zb
    have rch : Reach a.length (wd a) (wsOf a) (itr s top c m).1 := st.rch.trans (reach_itr wf ht m fun j hj => (ok.2.2.2.2 j hj).1)
    have ech' := ech.next wf ok ce
    have S := szs_of n1 n2
    have rbu : ∀ i, top ≤ i → ∀ j, (ent (itr s top c m).1 i j).natAbs ≤ 2 ^ (4 * b + 3) := fun i hi j => Nat.le_trans (ce.rb i hi j) S.r
    have abu : ∀ i j, i < top → (ent (itr s top c m).1 i j).natAbs ≤ 2 ^ az := fun i j hi => by rw [ce.abv i hi]; exact ab i j
    have zbu : ZB (itr s top c m).1 (2 ^ (z + 7 * (3 * b + 3))) := ce.zb.mono S.z
    have p1 : 2 ^ az ≤ 2 ^ (az + (4 * b + 3) + 1) := Nat.pow_le_pow_right (by decide) (by omega)
    have p2 : 2 ^ (4 * b + 3) ≤ 2 ^ (az + (4 * b + 3) + 1) := Nat.pow_le_pow_right (by decide) (by omega)
    have p3 : 2 ^ (z + 7 * (3 * b + 3)) ≤ 2 ^ (z + 7 * (3 * b + 3) + 7 * (az + 1)) := Nat.pow_le_pow_right (by decide) (by omega)
    by_cases hp : ent (itr s top c m).1 top c = 0
    · have ecs : colStep (s, top) a.length c m = ((itr s top c m).1, top) := by
        unfold colStep
        rw [if_pos ht]
        show (if ent (itr s top c m).1 top c ≠ 0 then _ else _ : WS × Nat) = _
        rw [if_neg (fun z => z hp)]
      refine ⟨m, fun _ => ⟨ok, fun z => absurd hp z⟩, ?_⟩
      rw [ecs] at ech' ⊢
      refine ⟨ce.wf, Nat.le_of_lt ht, rch, ech', fun i hi j => ?_, fun i j => ?_, ?_⟩
      · rw [hnb']; exact rbu i hi j
      · rw [hnb']
        by_cases hi : i < top
        · exact Nat.le_trans (abu i j hi) p1
        · exact Nat.le_trans (rbu i (by omega) j) p2
      · rw [hnb']; exact zbu.mono p3
    · have ecs : colStep (s, top) a.length c m = (subs (itr s top c m).1 top c 0 top, top + 1) := by
        unfold colStep
        rw [if_pos ht]
        show (if ent (itr s top c m).1 top c ≠ 0 then _ else _ : WS × Nat) = _
        rw [if_pos hp]
      obtain ⟨p, hpe⟩ : ∃ p : Nat, ent (itr s top c m).1 top c = (p : Int) := ⟨(ent (itr s top c m).1 top c).toNat, by have := ce.tp; omega⟩
      have hp0 : 0 < p := by omega
      have f1 : 2 ^ az + 1 ≤ 2 ^ (az + 1) := by
        rw [Nat.pow_succ]
        have : 0 < 2 ^ az := Nat.pow_pos (by decide)
        omega
      have hq : ∀ i, 0 ≤ i → i < 0 + top → ((ent (itr s top c m).1 i c).fdiv (ent (itr s top c m).1 top c)).natAbs + 1 ≤ 2 ^ (az + 1) := fun i _ hi => by
        rw [hpe]
        have := fdiv_le (x := ent (itr s top c m).1 i c) hp0
        have := abu i c (by omega)
        omega
      have zf : 2 ^ (z + 7 * (3 * b + 3)) * (2 ^ (az + 1)) ^ 7 = 2 ^ (z + 7 * (3 * b + 3) + 7 * (az + 1)) := by
        rw [← Nat.pow_mul, ← Nat.pow_add, Nat.mul_comm (az + 1) 7]
      have es := ent_subs (c := c) (lo := 0) ce.wf ht top (by omega) (.inr (by omega))
      refine ⟨m, fun _ => ⟨ok, fun _ => subs_ok (lo := 0) (f := 2 ^ (az + 1)) (eq := az + 1) (er := 4 * b + 3) ce.wf ht (by omega) (.inr (by omega)) (by omega) hq (Nat.le_refl _) (rbu top (Nat.le_refl _)) zbu (Nat.le_of_eq zf) n3 n4⟩, ?_⟩
      rw [ecs] at ech' ⊢
      refine ⟨wf_subs ce.wf ht top (by omega), ht, rch.trans (reach_subs ce.wf ht top (by omega) (.inr (by omega))), ech', fun i hi j => ?_, fun i j => ?_, ?_⟩
      · have hi' : top + 1 ≤ i := hi
        rw [hnb']
        show (ent (subs (itr s top c m).1 top c 0 top) i j).natAbs ≤ _
        rw [es, if_neg (by omega)]
        exact rbu i (by omega) j
      · rw [hnb']
        show (ent (subs (itr s top c m).1 top c 0 top) i j).natAbs ≤ _
        rw [es]
        split
        · rename_i hi
          have e2 := abs_less (Z := 2 ^ (az + (4 * b + 3))) (f := 1) (x := ent (itr s top c m).1 i j) (y := 0) (k := 0) (Nat.le_trans (abu i j (by omega)) (Nat.pow_le_pow_right (by decide) (by omega))) (Nat.zero_le _) (by decide)
          have h1 := abu i j (by omega)
          have h2 := fdiv_le (x := ent (itr s top c m).1 i c) hp0
          have h3 := abu i c (by omega)
          have h4 := rbu top (Nat.le_refl _) j
          rw [hpe]
          have h5 : ((ent (itr s top c m).1 i c).fdiv (p : Int) * ent (itr s top c m).1 top j).natAbs ≤ 2 ^ (az + (4 * b + 3)) := by
            rw [Int.natAbs_mul, Nat.pow_add]
            exact Nat.mul_le_mul (Nat.le_trans h2 h3) h4
          have h6 : 2 ^ az ≤ 2 ^ (az + (4 * b + 3)) := Nat.pow_le_pow_right (by decide) (by omega)
          have h7 : 2 ^ (az + (4 * b + 3) + 1) = 2 * 2 ^ (az + (4 * b + 3)) := by rw [Nat.pow_succ, Nat.mul_comm]
          show (ent (itr s top c m).1 i j - (ent (itr s top c m).1 i c).fdiv (p : Int) * ent (itr s top c m).1 top j).natAbs ≤ 2 ^ (az + (4 * b + 3) + 1)
          rw [h7]
          omega
        · by_cases hi : i < top
          · exact Nat.le_trans (abu i j hi) p1
          · exact Nat.le_trans (rbu i (by omega) j) p2
      · rw [hnb']
        show ZB (subs (itr s top c m).1 top c 0 top) _
        refine (ZB.subs (lo := 0) (c := c) (f := 2 ^ (az + 1)) ce.wf ht zbu top (by omega) (.inr (by omega)) hq).mono ?_
        show _ ≤ 2 ^ (z + 7 * (3 * b + 3) + 7 * (az + 1))
        rw [← zf]
        exact Nat.mul_le_mul_left _ (Nat.pow_le_pow_right (Nat.pow_pos (by decide)) (by omega))
  · have ecs : colStep (s, top) a.length c 0 = (s, top) := by
      unfold colStep
      rw [if_neg ht]
    refine ⟨0, fun z => absurd z ht, ?_⟩
    rw [ecs]
    refine ⟨wf, st.tp, st.rch, ⟨pc, ech.more wf (by show a.length ≤ top; omega)⟩, fun i hi j => ?_, fun i j => ?_, ?_⟩
    · rw [hnb']; exact Nat.le_trans (rb i hi j) (Nat.pow_le_pow_right (by decide) (by show b ≤ 4 * b + 3; omega))
    · rw [hnb']; exact Nat.le_trans (ab i j) (Nat.pow_le_pow_right (by decide) (by show az ≤ az + (4 * b + 3) + 1; omega))
    · rw [hnb']; exact zb.mono (Nat.pow_le_pow_right (by decide) (by show z ≤ z + 7 * (3 * b + 3) + 7 * (az + 1); omega))
theorem hw_congr {a : List (List Int)} {m1 m2 : Nat → Nat} : ∀ c, (∀ k, k < c → m1 k = m2 k) → hw a m1 c = hw a m2 c
  | 0, _ => rfl
  | c + 1, h => by
    show colStep (hw a m1 c) a.length c (m1 c) = colStep (hw a m2 c) a.length c (m2 c)
    rw [hw_congr c fun k hk => h k (by omega), h c (by omega)]
theorem hermite_ex {a : List (List Int)} (h : Mx a) : ∃ mm, hwOk a (wd a) mm ∧ Cst a (wd a) (hw a mm (wd a)) := by
  have key : ∀ c, c ≤ wd a → ∃ mm, (∀ k, k < c → (hw a mm k).2 < a.length → clearOk (hw a mm k).1 a.length (wd a) (hw a mm k).2 k (mm k) ∧ (ent (itr (hw a mm k).1 (hw a mm k).2 k (mm k)).1 (hw a mm k).2 k ≠ 0 → subsOk (itr (hw a mm k).1 (hw a mm k).2 k (mm k)).1 (hw a mm k).2 k 0 (hw a mm k).2)) ∧ Cst a c (hw a mm c) := fun c => by
    induction c with
    | zero => exact fun _ => ⟨fun _ => 0, fun k hk => absurd hk (Nat.not_lt_zero k), Cst.zero h⟩
    | succ c ih =>
      intro hc
      obtain ⟨mm, h1, h2⟩ := ih (by omega)
      obtain ⟨m, h3, h4⟩ := h2.next h (by omega)
      have e : ∀ k, k ≤ c → hw a (fun j => if j = c then m else mm j) k = hw a mm k := fun k hk => hw_congr k fun j hj => if_neg (by omega)
      refine ⟨fun j => if j = c then m else mm j, fun k hk => ?_, ?_⟩
      · rw [e k (by omega)]
        show _ → clearOk _ _ _ _ _ (if k = c then m else mm k) ∧ (ent (itr _ _ _ (if k = c then m else mm k)).1 _ _ ≠ 0 → subsOk (itr _ _ _ (if k = c then m else mm k)).1 _ _ _ _)
        by_cases hk' : k = c
        · rw [if_pos hk', hk']
          exact h3
        · rw [if_neg hk']
          exact h1 k (by omega)
      · show Cst a (c + 1) (colStep (hw a (fun j => if j = c then m else mm j) c) a.length c (if c = c then m else mm c))
        rw [e c (Nat.le_refl _), if_pos rfl]
        exact h4
  obtain ⟨mm, h1, h2⟩ := key (wd a) (Nat.le_refl _)
  exact ⟨mm, h1, h2⟩
end
/-! ### what rows span -/
section
def InS : List (List Int) → (Nat → Int) → Prop
  | [], v => ∀ j, v j = 0
  | r :: rs, v => ∃ c : Int, InS rs fun j => v j - c * r.getD j 0
theorem InS.congr {u v : Nat → Int} : ∀ {l : List (List Int)}, InS l u → (∀ j, u j = v j) → InS l v
  | [], h, e => fun j => (e j).symm.trans (h j)
  | _ :: _, ⟨c, h⟩, e => ⟨c, h.congr fun j => by rw [e j]⟩
theorem InS.zero : ∀ {l : List (List Int)}, InS l fun _ => 0
  | [] => fun _ => rfl
  | _ :: _ => ⟨0, InS.zero.congr fun j => by simp⟩
theorem InS.add {u v : Nat → Int} : ∀ {l : List (List Int)}, InS l u → InS l v → InS l fun j => u j + v j
  | [], h, h2 => fun j => by show u j + v j = 0; rw [h j, h2 j]; rfl
  | _ :: _, ⟨c, h⟩, ⟨d, h2⟩ => ⟨c + d, (h.add h2).congr fun j => by
    show _ = u j + v j - (c + d) * _
    rw [Int.add_mul]
    omega⟩
theorem InS.smul {v : Nat → Int} {k : Int} : ∀ {l : List (List Int)}, InS l v → InS l fun j => k * v j
  | [], h => fun j => by show k * v j = 0; rw [h j, Int.mul_zero]
  | _ :: _, ⟨c, h⟩ => ⟨k * c, (h.smul (k := k)).congr fun j => by rw [Int.mul_sub, Int.mul_assoc]⟩
theorem InS.cons {v : Nat → Int} {r : List Int} {l : List (List Int)} (h : InS l v) : InS (r :: l) v := ⟨0, h.congr fun j => by simp⟩
theorem InS.mem {r : List Int} : ∀ {l : List (List Int)}, r ∈ l → InS l fun j => r.getD j 0
  | _ :: _, h => by
    rcases List.mem_cons.mp h with e | e
    · subst e
      exact ⟨1, InS.zero.congr fun j => by simp⟩
    · exact (InS.mem e).cons
theorem InS.of {l2 : List (List Int)} {v : Nat → Int} : ∀ {l : List (List Int)}, InS l v → (∀ r ∈ l, InS l2 fun j => r.getD j 0) → InS l2 v
  | [], h, _ => InS.zero.congr fun j => (h j).symm
  | r :: rs, ⟨c, h⟩, q => ((h.of fun x hx => q x (List.mem_cons_of_mem _ hx)).add ((q r List.mem_cons_self).smul (k := c))).congr fun j => by omega
def Sub (l l2 : List (List Int)) : Prop := ∀ r ∈ l, InS l2 fun j => r.getD j 0
theorem Sub.refl {l : List (List Int)} : Sub l l := fun _ h => InS.mem h
theorem Sub.trans {l l2 l3 : List (List Int)} (h : Sub l l2) (h2 : Sub l2 l3) : Sub l l3 := fun r hr => (h r hr).of h2
theorem Sub.ix {l l2 : List (List Int)} (h : ∀ i, i < l.length → InS l2 fun j => gE l i j) : Sub l l2 := fun r hr => by
  obtain ⟨i, hi, e⟩ := List.getElem_of_mem hr
  have := h i hi
  refine this.congr fun j => ?_
  unfold gE
  rw [List.getD_eq_getElem?_getD (l := l), List.getElem?_eq_getElem hi, e]
  rfl
theorem InS.ix {l : List (List Int)} {i : Nat} (hi : i < l.length) : InS l fun j => gE l i j := InS.mem (mem_getD hi)
theorem swap_len {l : List (List Int)} {i j : Nat} : (swapL l i j).length = l.length := by unfold swapL; rw [List.length_set, List.length_set]
theorem neg_len {l : List (List Int)} {i : Nat} : (negL l i).length = l.length := by unfold negL; rw [List.length_set]
theorem take_len {l : List (List Int)} {i j : Nat} {k : Int} : (takeL l i k j).length = l.length := by unfold takeL; rw [List.length_set]
theorem sub_swap {l : List (List Int)} {i j : Nat} (hi : i < l.length) (hj : j < l.length) : Sub (swapL l i j) l ∧ Sub l (swapL l i j) := by
  refine ⟨Sub.ix fun a ha => ?_, Sub.ix fun a ha => ?_⟩
  · rw [swap_len] at ha
    by_cases h1 : a = j
    · exact (InS.ix hi).congr fun b => by rw [gE_swap hi hj, if_pos h1]
    · by_cases h2 : a = i
      · exact (InS.ix hj).congr fun b => by rw [gE_swap hi hj, if_neg h1, if_pos h2]
      · exact (InS.ix ha).congr fun b => by rw [gE_swap hi hj, if_neg h1, if_neg h2]
  · by_cases h1 : a = i
    · exact (InS.ix (l := swapL l i j) (i := j) (by rw [swap_len]; exact hj)).congr fun b => by rw [gE_swap hi hj, if_pos rfl, h1]
    · by_cases h2 : a = j
      · exact (InS.ix (l := swapL l i j) (i := i) (by rw [swap_len]; exact hi)).congr fun b => by
          rw [gE_swap hi hj]
          by_cases h3 : i = j
          · exact absurd (h2.trans h3.symm) h1
          · rw [if_neg h3, if_pos rfl, h2]
      · exact (InS.ix (l := swapL l i j) (i := a) (by rw [swap_len]; exact ha)).congr fun b => by rw [gE_swap hi hj, if_neg h2, if_neg h1]
theorem sub_neg {l : List (List Int)} {i : Nat} (hi : i < l.length) : Sub (negL l i) l ∧ Sub l (negL l i) := by
  refine ⟨Sub.ix fun a ha => ?_, Sub.ix fun a ha => ?_⟩
  · rw [neg_len] at ha
    by_cases h1 : a = i
    · exact ((InS.ix hi).smul (k := -1)).congr fun b => by rw [gE_neg hi, if_pos h1]; omega
    · exact (InS.ix ha).congr fun b => by rw [gE_neg hi, if_neg h1]
  · by_cases h1 : a = i
    · exact ((InS.ix (l := negL l i) (i := i) (by rw [neg_len]; exact hi)).smul (k := -1)).congr fun b => by rw [gE_neg hi, if_pos rfl, h1]; omega
    · exact (InS.ix (l := negL l i) (i := a) (by rw [neg_len]; exact ha)).congr fun b => by rw [gE_neg hi, if_neg h1]
theorem sub_take {l : List (List Int)} {i j u : Nat} {k : Int} (hi : i < l.length) (hj : j < l.length) (hij : i ≠ j) (hu : ∀ q ∈ l, q.length = u) : Sub (takeL l i k j) l ∧ Sub l (takeL l i k j) := by
  refine ⟨Sub.ix fun a ha => ?_, Sub.ix fun a ha => ?_⟩
  · rw [take_len] at ha
    by_cases h1 : a = i
    · exact ((InS.ix hi).add ((InS.ix hj).smul (k := -k))).congr fun b => by rw [gE_take hi hj hu, if_pos h1, Int.neg_mul]; omega
    · exact (InS.ix ha).congr fun b => by rw [gE_take hi hj hu, if_neg h1]
  · by_cases h1 : a = i
    · exact ((InS.ix (l := takeL l i k j) (i := i) (by rw [take_len]; exact hi)).add ((InS.ix (l := takeL l i k j) (i := j) (by rw [take_len]; exact hj)).smul (k := k))).congr fun b => by
        rw [gE_take hi hj hu, if_pos rfl, gE_take hi hj hu, if_neg (fun z => hij z.symm), h1]
        omega
    · exact (InS.ix (l := takeL l i k j) (i := a) (by rw [take_len]; exact ha)).congr fun b => by rw [gE_take hi hj hu, if_neg h1]
theorem Reach.span {n w : Nat} {s0 s : WS} (h : Reach n w s0 s) : Sub s.r s0.r ∧ Sub s0.r s.r := by
  induction h with
  | refl => exact ⟨.refl, .refl⟩
  | swap _ hw hi hj hij ih =>
    have := sub_swap (l := _) (i := _) (j := _) (by rw [hw.r]; exact hi) (by rw [hw.r]; exact hj)
    exact ⟨this.1.trans ih.1, ih.2.trans this.2⟩
  | turn _ hw hi ih =>
    have := sub_neg (l := _) (i := _) (by rw [hw.r]; exact hi)
    exact ⟨this.1.trans ih.1, ih.2.trans this.2⟩
  | @take s i j k _ hw hi hj hij ih =>
    have := sub_take (l := s.r) (i := i) (j := j) (k := k) (by rw [hw.r]; exact hi) (by rw [hw.r]; exact hj) hij hw.rw
    exact ⟨this.1.trans ih.1, ih.2.trans this.2⟩
/-! ### the form, and that there is one only -/
structure HF (h : List (List Int)) (w r : Nat) (pc : Nat → Nat) : Prop where
  le : r ≤ h.length
  wid : ∀ q ∈ h, q.length = w
  lt : ∀ i, i < r → pc i < w
  inc : ∀ i j, i < j → j < r → pc i < pc j
  left : ∀ i, i < r → ∀ j, j < pc i → gE h i j = 0
  pos : ∀ i, i < r → 0 < gE h i (pc i)
  abv : ∀ k i, k < i → i < r → 0 ≤ gE h k (pc i) ∧ gE h k (pc i) < gE h i (pc i)
  low : ∀ i, r ≤ i → ∀ j, gE h i j = 0
theorem InS.van {v : Nat → Int} {j : Nat} : ∀ {l : List (List Int)}, InS l v → (∀ r ∈ l, r.getD j 0 = 0) → v j = 0
  | [], h, _ => h j
  | r :: rs, ⟨c, h⟩, q => by
    have := h.van fun x hx => q x (List.mem_cons_of_mem _ hx)
    have e := q r List.mem_cons_self
    try dsimp only at this
    rw [e, Int.mul_zero] at this
    omega
theorem gE_wide {h : List (List Int)} {w i j : Nat} (hw : ∀ q ∈ h, q.length = w) (hj : w ≤ j) : gE h i j = 0 := by
  unfold gE
  by_cases hi : i < h.length
  · rw [List.getD_eq_getElem?_getD (l := h.getD i []), List.getElem?_eq_none (by rw [hw _ (mem_getD hi)]; exact hj)]
    rfl
  · rw [List.getD_eq_getElem?_getD (l := h), List.getElem?_eq_none (by omega)]
    rfl
theorem drop_mem {h : List (List Int)} {k : Nat} {q : List Int} (hq : q ∈ h.drop k) : ∃ i, k ≤ i ∧ i < h.length ∧ ∀ j, q.getD j 0 = gE h i j := by
  obtain ⟨i, hi, e⟩ := List.getElem_of_mem hq
  rw [List.length_drop] at hi
  rw [List.getElem_drop] at e
  refine ⟨k + i, by omega, by omega, fun j => ?_⟩
  unfold gE
  rw [List.getD_eq_getElem?_getD (l := h), List.getElem?_eq_getElem (by omega), ← e]
  rfl
theorem HF.van {h : List (List Int)} {w r k : Nat} {pc : Nat → Nat} (f : HF h w r pc) (hk : k < r) {j : Nat} (hj : j ≤ pc k) : ∀ q ∈ h.drop (k + 1), q.getD j 0 = 0 := fun q hq => by
  obtain ⟨i, h1, h2, e⟩ := drop_mem hq
  rw [e]
  by_cases hi : i < r
  · exact f.left i hi j (Nat.lt_of_le_of_lt hj (f.inc k i (by omega) hi))
  · exact f.low i (by omega) j
theorem HF.lead {h : List (List Int)} {w r : Nat} {pc : Nat → Nat} (f : HF h w r pc) {p : Nat} : ∀ (d k : Nat) (v : Nat → Int), h.length - k = d → InS (h.drop k) v → (∀ j, j < p → v j = 0) → v p ≠ 0 → ∃ i, i < r ∧ pc i = p ∧ gE h i p ∣ v p := fun d => by
  induction d with
  | zero =>
    intro k v hd hv _ hp
    rw [List.drop_of_length_le (by omega)] at hv
    exact absurd (hv p) hp
  | succ d ih =>
    intro k v hd hv h0 hp
    have hk : k < h.length := by omega
    by_cases hkr : k < r
    · rw [List.drop_eq_getElem_cons hk] at hv
      obtain ⟨c, hc⟩ := hv
      have eg : ∀ j, h[k].getD j 0 = gE h k j := fun j => by
        unfold gE
        rw [List.getD_eq_getElem?_getD (l := h), List.getElem?_eq_getElem hk]
        rfl
      have e1 : ∀ j, j ≤ pc k → v j = c * gE h k j := fun j hj => by
        have := hc.van (j := j) (f.van hkr hj)
        try dsimp only at this
        rw [eg] at this
        omega
      rcases Nat.lt_trichotomy p (pc k) with hlt | heq | hgt
      · exact absurd (by rw [e1 p (by omega), f.left k hkr p hlt, Int.mul_zero]) hp
      · exact ⟨k, hkr, heq.symm, by rw [e1 p (by omega)]; exact Int.dvd_mul_left _ _⟩
      · have e2 := e1 (pc k) (Nat.le_refl _)
        rw [h0 (pc k) hgt] at e2
        have hc0 : c = 0 := by
          rcases Int.mul_eq_zero.mp e2.symm with z | z
          · exact z
          · have := f.pos k hkr; omega
        exact ih (k + 1) v (by omega) (hc.congr fun j => by rw [hc0]; omega) h0 hp
    · have : v p = 0 := hv.van fun q hq => by
        obtain ⟨i, h1, h2, e⟩ := drop_mem hq
        rw [e]
        exact f.low i (by omega) p
      exact absurd this hp
theorem HF.lead0 {h : List (List Int)} {w r : Nat} {pc : Nat → Nat} (f : HF h w r pc) {p : Nat} {v : Nat → Int} (hv : InS h v) (h0 : ∀ j, j < p → v j = 0) (hp : v p ≠ 0) : ∃ i, i < r ∧ pc i = p ∧ gE h i p ∣ v p := f.lead _ 0 v rfl hv h0 hp
theorem HF.cols {h h2 : List (List Int)} {w r r2 : Nat} {pc pc2 : Nat → Nat} (f : HF h w r pc) (f2 : HF h2 w r2 pc2) (s1 : Sub h h2) (s2 : Sub h2 h) : ∀ i, (i < r → i < r2 ∧ pc i = pc2 i) ∧ (i < r2 → i < r) := fun i => by
  induction i using Nat.strongRecOn with
  | _ i ih =>
    have a1 : i < r → ∃ k, i ≤ k ∧ k < r2 ∧ pc2 k = pc i := fun hi => by
      obtain ⟨k, hk, e, _⟩ := f2.lead0 (s1 _ (mem_getD (a0 := []) (show i < h.length by have := f.le; omega))) (fun j hj => f.left i hi j hj) (by have := f.pos i hi; unfold gE at this; omega)
      refine ⟨k, ?_, hk, e⟩
      rcases Nat.lt_or_ge k i with h | h
      · have := (ih k h).2 hk
        have e3 := ((ih k h).1 this).2
        have := f.inc k i h hi
        omega
      · exact h
    have a2 : i < r2 → ∃ k, i ≤ k ∧ k < r ∧ pc k = pc2 i := fun hi => by
      obtain ⟨k, hk, e, _⟩ := f.lead0 (s2 _ (mem_getD (a0 := []) (show i < h2.length by have := f2.le; omega))) (fun j hj => f2.left i hi j hj) (by have := f2.pos i hi; unfold gE at this; omega)
      refine ⟨k, ?_, hk, e⟩
      rcases Nat.lt_or_ge k i with h | h
      · have e3 := (ih k h).1 hk
        have := f2.inc k i h hi
        omega
      · exact h
    refine ⟨fun hi => ?_, fun hi => ?_⟩
    · obtain ⟨k, h1, h2, e⟩ := a1 hi
      have hi2 : i < r2 := by omega
      obtain ⟨k2, h3, h4, e2⟩ := a2 hi2
      refine ⟨hi2, ?_⟩
      have m1 : pc2 i ≤ pc2 k := by
        rcases Nat.eq_or_lt_of_le h1 with z | z
        · rw [z]; exact Nat.le_refl _
        · exact Nat.le_of_lt (f2.inc i k z h2)
      have m2 : pc i ≤ pc k2 := by
        rcases Nat.eq_or_lt_of_le h3 with z | z
        · rw [z]; exact Nat.le_refl _
        · exact Nat.le_of_lt (f.inc i k2 z h4)
      omega
    · obtain ⟨k2, h3, h4, e2⟩ := a2 hi
      omega
theorem dvd_pos_eq {a b : Int} (ha : 0 < a) (hb : 0 < b) (h1 : a ∣ b) (h2 : b ∣ a) : a = b := by
  have := Int.le_of_dvd hb h1
  have := Int.le_of_dvd ha h2
  omega
theorem rows_eq {h h2 : List (List Int)} {w : Nat} (hl : h.length = h2.length) (w1 : ∀ q ∈ h, q.length = w) (w2 : ∀ q ∈ h2, q.length = w) (he : ∀ i j, gE h i j = gE h2 i j) : h = h2 := by
  refine List.ext_getElem hl fun i h1 h3 => ?_
  have e1 := w1 _ (List.getElem_mem h1)
  have e2 := w2 _ (List.getElem_mem h3)
  refine List.ext_getElem (by rw [e1, e2]) fun j h4 h5 => ?_
  have := he i j
  unfold gE at this
  rw [List.getD_eq_getElem?_getD (l := h), List.getD_eq_getElem?_getD (l := h2), List.getElem?_eq_getElem h1, List.getElem?_eq_getElem h3] at this
  simp only [Option.getD_some, List.getD_eq_getElem?_getD] at this
  rw [List.getElem?_eq_getElem h4, List.getElem?_eq_getElem h5] at this
  exact this
theorem HF.uniq {h h2 : List (List Int)} {w r r2 : Nat} {pc pc2 : Nat → Nat} (f : HF h w r pc) (f2 : HF h2 w r2 pc2) (hl : h.length = h2.length) (s1 : Sub h h2) (s2 : Sub h2 h) : h = h2 := by
  have cs := f.cols f2 s1 s2
  have hr : r = r2 := by
    rcases Nat.lt_trichotomy r r2 with z | z | z
    · have := (cs r).2 z; omega
    · exact z
    · have := ((cs r2).1 z).1; omega
  subst hr
  have hpv : ∀ i, i < r → gE h i (pc i) = gE h2 i (pc i) := fun i hi => by
    have ep := ((cs i).1 hi).2
    obtain ⟨k, hk, e, d1⟩ := f2.lead0 (s1 _ (mem_getD (a0 := []) (show i < h.length by have := f.le; omega))) (fun j hj => f.left i hi j hj) (by have := f.pos i hi; unfold gE at this; omega)
    obtain ⟨k2, hk2, e2, d2⟩ := f.lead0 (s2 _ (mem_getD (a0 := []) (show i < h2.length by have := f2.le; omega))) (fun j hj => f2.left i hi j hj) (by have := f2.pos i hi; unfold gE at this; omega)
    have ek : k = i := by
      rcases Nat.lt_trichotomy k i with z | z | z
      · have := f2.inc k i z hi; omega
      · exact z
      · have := f2.inc i k z hk; omega
    have ek2 : k2 = i := by
      have := ((cs k2).1 hk2).2
      rcases Nat.lt_trichotomy k2 i with z | z | z
      · have := f.inc k2 i z hi; omega
      · exact z
      · have := f.inc i k2 z hk2; omega
    subst ek
    subst ek2
    have p1 := f.pos _ hi
    have p2 := f2.pos _ hi
    rw [ep] at p1 d1 ⊢
    exact dvd_pos_eq p1 p2 d2 d1
  refine rows_eq hl f.wid f2.wid fun i j => ?_
  by_cases hi : i < r
  · have hin : InS h fun j => gE h i j - gE h2 i j := ((InS.ix (show i < h.length by have := f.le; omega)).add ((s2 _ (mem_getD (a0 := []) (show i < h2.length by have := f2.le; omega))).smul (k := -1))).congr fun j => by
      show gE h i j + -1 * gE h2 i j = _
      omega
    have all : ∀ p, ∀ j, j < p → gE h i j - gE h2 i j = 0 := fun p => by
      induction p with
      | zero => exact fun j hj => absurd hj (Nat.not_lt_zero j)
      | succ p ih =>
        intro j hj
        by_cases hjp : j < p
        · exact ih j hjp
        · have ejp : j = p := by omega
          subst ejp
          by_cases hz : gE h i j - gE h2 i j = 0
          · exact hz
          · obtain ⟨k, hk, ek, dv⟩ := f.lead0 hin ih hz
            have epi := ((cs i).1 hi).2
            have epk := ((cs k).1 hk).2
            rcases Nat.lt_trichotomy k i with z | z | z
            · have l1 := f.inc k i z hi
              have := f.left i hi j (by omega)
              have := f2.left i hi j (by omega)
              omega
            · subst z
              have := hpv k hk
              rw [ek] at this
              omega
            · have b1 := f.abv i k z hk
              have b2 := f2.abv i k z hk
              have e3 := hpv k hk
              rw [← epk] at b2
              rw [ek] at b1 b2 e3
              rw [← e3] at b2
              exfalso
              obtain ⟨q, hq⟩ := dv
              try dsimp only at hq
              have p0 := f.pos k hk
              rw [ek] at p0
              have hq0 : q = 0 := by
                rcases Int.lt_trichotomy q 0 with z | z | z
                · have : gE h k j * q ≤ gE h k j * (-1) := Int.mul_le_mul_of_nonneg_left (by omega) (by omega)
                  omega
                · exact z
                · have : gE h k j * 1 ≤ gE h k j * q := Int.mul_le_mul_of_nonneg_left (by omega) (by omega)
                  omega
              rw [hq0, Int.mul_zero] at hq
              exact hz hq
    have := all (j + 1) j (by omega)
    omega
  · rw [f.low i (by omega), f2.low i (by omega)]
end
end
section
/-! ### the program's other words -/
section
variable {g : Pg}
def nzR (v : List Int) : Bool := v.any (· != 0)
theorem ok_is_zero (W : Wd g) : FN g "is_zero" 1 (P1 fun d r => ∃ v, d = tV v ∧ r = .bl (!nzR v)) := by
  refine FN.mk1 W.t_is_zero c_is_zero (fun _ _ _ _ _ _ us hl => match us, hl with | [_], _ => rfl) (fun d r h => ?_)
  obtain ⟨v, rfl, rfl⟩ := h
  exact SB.one (ST.ret (EV.not (EV.anyT (EV.nm 0) W.b.any)))
def HOf (a h : List (List Int)) : Prop := ∃ mm, Mx a ∧ hwOk a (wd a) mm ∧ Cst a (wd a) (hw a mm (wd a)) ∧ h = (hw a mm (wd a)).1.r
theorem hof_ex {a : List (List Int)} (h : Mx a) : ∃ H, HOf a H := by
  obtain ⟨mm, h1, h2⟩ := hermite_ex h
  exact ⟨_, mm, h, h1, h2, rfl⟩
theorem ok_form_of (W : Wd g) : FN g "form_of" 35 (P1 fun d r => ∃ a h, HOf a h ∧ d = tM a ∧ r = tM h) := by
  refine FN.mk1 W.t_form_of c_form_of (fun _ _ _ _ _ _ us hl => match us, hl with | [_], _ => rfl) (fun d r h => ?_)
  obtain ⟨a, h, ⟨mm, hM, ok, _, rfl⟩, rfl, rfl⟩ := h
  exact SB.one (ST.ret (EV.ix (EV.c1 (ok_hermite_ways W) (EV.nm 0) ⟨a, mm, hM, ok, rfl, rfl⟩) EV.int (atI_nat (j := 0) rfl)))
/-- the rows that are not zeros -/
def nzs (m : List (List Int)) : List (List Int) := m.filter nzR
def basF (h : List (List Int)) : List (List Int) := if (nzs h).length > 0 then nzs h else [h.headD []]
theorem ok_basis_of (W : Wd g) : FN g "basis_of" 36 (P1 fun d r => ∃ a h, HOf a h ∧ d = tM a ∧ h.length < 100000 ∧ h ≠ [] ∧ r = tM (basF h)) := by
  refine FN.mk1 W.t_basis_of c_basis_of (fun _ _ _ _ _ _ us hl => match us, hl with | [_], _ => rfl) (fun d r h => ?_)
  obtain ⟨a, h, hh, rfl, hz, hne, rfl⟩ := h
  refine SB.cons (ST.set 1 (EV.c1 (ok_form_of W) (EV.nm 0) ⟨a, h, hh, rfl, rfl⟩) c_basis_of.nd) (SB.cons (ST.set 2 (EV.tuple (LC.ev (LC.lMF 3 (xs := h) (f := tV) (g := tV) (t := nzR) (own := [("row", 3)]) (by rfl) c_basis_of.nd rfl (EV.nm 1) rfl (Nat.le_refl _) OkM.refl hz (fun y _ M => ET.to (ET.not (ET.val (EV.c1 (ok_is_zero W) (EV.nm 3) ⟨y, rfl, rfl⟩))) (by rw [Bool.not_not])) (fun y _ _ M => EV.nm 3))) rfl W.b.tuple) c_basis_of.nd) (SB.one (ST.ret ?_)))
  have hl : lenD (.tup ((h.filter nzR).map tV)) = some (nzs h).length := by
    show some (List.map _ _).length = _
    rw [List.length_map]
    rfl
  unfold basF
  by_cases hp : (nzs h).length > 0
  · rw [if_pos hp]
    exact EV.ite (k := true) (ET.to (ET.cm (EV.len (EV.nm 2) hl W.b.len) EV.int CS.gtI) (decide_eq_true (by omega))) (fun _ => EV.nm 2) (fun z => nomatch z)
  · rw [if_neg hp]
    exact EV.ite (k := false) (ET.to (ET.cm (EV.len (EV.nm 2) hl W.b.len) EV.int CS.gtI) (decide_eq_false (by omega))) (fun z => nomatch z) (fun _ => EV.tup (ds := [tV (h.headD [])]) (EA.cons (EV.ix (EV.nm 1) EV.int (ix_tM0 hne)) EA.nil) (by simp))
theorem ok_basis (W : Wd g) : FN g "basis" 37 (P1 fun d r => ∃ a h, IsM d a ∧ HOf a h ∧ h.length < 100000 ∧ h ≠ [] ∧ r = tM (basF h)) := by
  refine FN.mk1 W.t_basis c_basis (fun _ _ _ _ _ _ us hl => match us, hl with | [_], _ => rfl) (fun d r h => ?_)
  obtain ⟨a, h, hd, hh, hz, hne, rfl⟩ := h
  exact SB.one (ST.ret (EV.c1 (ok_basis_of W) (EV.c1 (ok_checked_matrix W) (EV.nm 0) ⟨a, hd, rfl⟩) ⟨a, h, hh, rfl, hz, hne, rfl⟩))
theorem ok_pivots_of (W : Wd g) : FN g "pivots_of" 2 (P1 fun d r => ∃ h, d = tM h ∧ h.length < 100000 ∧ r = .lst ((nzs h).map fun q => optN (leadF q))) := by
  refine FN.mk1 W.t_pivots_of c_pivots_of (fun _ _ _ _ _ _ us hl => match us, hl with | [_], _ => rfl) (fun d r h => ?_)
  obtain ⟨h, rfl, hz, rfl⟩ := h
  exact SB.one (ST.ret (LC.ev (LC.lMF 1 (xs := h) (f := tV) (g := fun q => optN (leadF q)) (t := nzR) (own := [("row", 1)]) (by rfl) c_pivots_of.nd rfl (EV.nm 0) rfl (Nat.le_refl _) OkM.refl hz (fun y _ M => ET.to (ET.not (ET.val (EV.c1 (ok_is_zero W) (EV.nm 1) ⟨y, rfl, rfl⟩))) (by rw [Bool.not_not])) (fun y _ _ M => EV.c1 (ok_lead W) (EV.nm 1) ⟨y, rfl, rfl⟩))))
theorem ok_pivots (W : Wd g) : FN g "pivots" 37 (P1 fun d r => ∃ a h, IsM d a ∧ HOf a h ∧ h.length < 100000 ∧ r = .tup ((nzs h).map fun q => optN (leadF q))) := by
  refine FN.mk1 W.t_pivots c_pivots (fun _ _ _ _ _ _ us hl => match us, hl with | [_], _ => rfl) (fun d r h => ?_)
  obtain ⟨a, h, hd, hh, hz, rfl⟩ := h
  exact SB.one (ST.ret (EV.tuple (EV.c1 (ok_pivots_of W) (EV.c1 (ok_form_of W) (EV.c1 (ok_checked_matrix W) (EV.nm 0) ⟨a, hd, rfl⟩) ⟨a, h, hh, rfl, rfl⟩) ⟨h, rfl, hz, rfl⟩) rfl W.b.tuple))
end
end
section
section
/-- a loop that leaves by one and the same return -/
theorem SB.forB {C : Cc} {E E0 : List O} {M M0 : Mem} {n : Nat} {it : Nat → O} {inv : Mem → Prop} {tg iter : Expr} {body rest : List Stmt} {pos : Pos} {good : Nat → Bool} {out : O} {r : Out} (hs : EI C tg iter E M n it M0 inv) (hE : Fg E E0) (hinv : inv M0)
    (step : ∀ i, i < n → ∃ E1, EG C tg (it i) E0 M0 E1 M0 ∧ (good i = true → ∃ E2, Fg E2 E0 ∧ SB C body E1 M0 (.nx E2 M0)) ∧ (good i = false → SB C body E1 M0 (.rt out M0)))
    (hrest : (List.range n).all good = true → SB C rest E0 M0 r) (hbad : (List.range n).all good = false → r = .rt out M0) (hf : ∀ env x, foldedSetIterable iter env x = pure x := by intro _ _; rfl) : SB C (.For tg iter body [] pos :: rest) E M r := by
  by_cases hall : (List.range n).all good = true
  · have ha : ∀ i, i < n → good i = true := fun i hi => List.all_eq_true.mp hall i (List.mem_range.mpr hi)
    refine SB.cons (ST.for (m := n) (n := n) (E_ := fun _ => E0) (M_ := fun _ => M0) hs hE rfl (Nat.le_refl _) (fun _ _ => hinv) (fun i hi => ?_) (.inl ⟨rfl, rfl⟩) hf) (hrest hall)
    obtain ⟨E1, h1, h2, _⟩ := step i hi
    obtain ⟨E2, h4, h5⟩ := h2 (ha i hi)
    exact ⟨E1, M0, E2, h1, h4, .inl h5⟩
  · have hex : ∃ i, i < n ∧ good i = false := by
      rw [Bool.not_eq_true, List.all_eq_false] at hall
      obtain ⟨i, hi, h⟩ := hall
      exact ⟨i, List.mem_range.mp hi, by simpa using h⟩
    obtain ⟨i, hi, hg⟩ := hex
    obtain ⟨k, hk, hkp, hmin⟩ := least (P := fun j => j < n ∧ good j = false) i ⟨hi, hg⟩
    rw [hbad (by simpa using hall)]
    obtain ⟨E1, h1, _, h3⟩ := step k hkp.1
    refine SB.stop (ST.for (m := k) (n := n) (E_ := fun _ => E0) (M_ := fun _ => M0) hs hE rfl (Nat.le_of_lt hkp.1) (fun _ _ => hinv) (fun j hj => ?_) (.inr ⟨hkp.1, E1, M0, h1, .inl ⟨out, M0, h3 hkp.2, rfl⟩⟩) hf)
    obtain ⟨E1', h1', h2', _⟩ := step j (by omega)
    have hgj : good j = true := by
      cases h : good j with
      | true => rfl
      | false => exact absurd ⟨by omega, h⟩ (hmin j hj)
    obtain ⟨E2, h4, h5⟩ := h2' hgj
    exact ⟨E1', M0, E2, h1', h4, .inl h5⟩
end
section
variable {g : Pg}
/-- a row among those ahead -/
def inR (m : List (List Int)) (i : Nat) : Bool := match leadF (m.getD i []) with
  | none => true
  | some p => !(decide ((m.getD i []).getD p 0 < 0) || !(m.take i).all fun q => decide (0 ≤ q.getD p 0) && decide (q.getD p 0 < (m.getD i []).getD p 0))
def inB (m : List (List Int)) : Bool := echB m && (List.range m.length).all (inR m)
theorem leadF_lt {v : List Int} {p : Nat} (h : leadF v = some p) : p < v.length ∧ v.getD p 0 ≠ 0 ∧ ∀ j, j < p → v.getD j 0 = 0 := by
  obtain ⟨h1, h2, h3⟩ := List.findIdx?_eq_some_iff_getElem.mp h
  refine ⟨h1, ?_, fun j hj => ?_⟩
  · rw [List.getD_eq_getElem?_getD, List.getElem?_eq_getElem h1]
    simpa using h2
  · have := h3 j hj
    rw [List.getD_eq_getElem?_getD, List.getElem?_eq_getElem (by omega)]
    simpa using this
theorem leadF_none {v : List Int} (h : leadF v = none) : ∀ j, v.getD j 0 = 0 := fun j => by
  by_cases hj : j < v.length
  · have := List.findIdx?_eq_none_iff.mp h v[j] (List.getElem_mem hj)
    rw [List.getD_eq_getElem?_getD, List.getElem?_eq_getElem hj]
    simpa using this
  · rw [List.getD_eq_getElem?_getD, List.getElem?_eq_none (by omega)]
    rfl
theorem cutD_nat {α : Type} {xs : List α} {i : Nat} (hi : i ≤ xs.length) : cutD xs none (some (i : Int)) = xs.take i := by
  unfold cutD
  have e1 : HT.sIx xs.length 0 none = 0 := rfl
  have e2 : HT.sIx xs.length xs.length (some (i : Int)) = i := by rw [HT.sIx_nat]; omega
  rw [e1, e2]
  rfl
end
/-! ### the law's own words -/
section
theorem FN.mk1x {g : Pg} {x y : Str} {st : Stmt} {N : List Str} {k : Nat} {F : D → D → Prop} (T : TxtF g x st) (S : FnScope N [y] (defScope st))
    (hb : ∀ (kV doc pm : Value) (an : Option Addr) (cdv ct : Value) (us : List Value), us.length = 1 → bindArgs (PySem.W.fnOf x x (defArgs st) (defBody st) (defScope st) .none kV doc pm an cdv ct) ⟨us, []⟩ = pure ([y].zip us))
    (body : ∀ d r, F d r → ∃ J, SB (Ab.mkC g N st k) (defBody st) (pad N [.dat d]) [] (.rt (.dat r) J)) : FN g x (k + 1) (P1 F) :=
  FN.mkJ T S hb (fun os M o M' h => by obtain ⟨d, r, rfl, _⟩ := h; rfl) (fun os M o M' h => by obtain ⟨d, r, rfl, rfl, rfl, rfl, h⟩ := h; obtain ⟨J, h⟩ := body d r h; exact ⟨Nat.le_refl _, True.intro, LowM.nil, J, h⟩)
theorem FN.mk2x' {g : Pg} {x y z : Str} {st : Stmt} {N : List Str} {k : Nat} {F : D → D → D → Prop} (T : TxtF g x st) (S : FnScope N [y, z] (defScope st))
    (hb : ∀ (kV doc pm : Value) (an : Option Addr) (cdv ct : Value) (us : List Value), us.length = 2 → bindArgs (PySem.W.fnOf x x (defArgs st) (defBody st) (defScope st) .none kV doc pm an cdv ct) ⟨us, []⟩ = pure ([y, z].zip us))
    (body : ∀ d e r, F d e r → ∃ J, SB (Ab.mkC g N st k) (defBody st) (pad N [.dat d, .dat e]) [] (.rt (.dat r) J)) : FN g x (k + 1) (P2 F) :=
  FN.mkJ T S hb (fun os M o M' h => by obtain ⟨d, e, r, rfl, _⟩ := h; rfl) (fun os M o M' h => by obtain ⟨d, e, r, rfl, rfl, rfl, rfl, h⟩ := h; obtain ⟨J, h⟩ := body d e r h; exact ⟨Nat.le_refl _, True.intro, LowM.nil, J, h⟩)
/-- rows of numbers, of lists or tuples -/
def Sq (d : D) (m : List (List Int)) : Prop := ∃ ds, seqD d = some ds ∧ Paired (fun e (r : List Int) => seqD e = some (r.map .int)) ds m
theorem sq_t {m : List (List Int)} : Sq (tM m) m := ⟨_, rfl, paired_tM m⟩
theorem sq_l {m : List (List Int)} : Sq (lM m) m := ⟨_, rfl, paired_lM m⟩
theorem sq_of {d : D} {m : List (List Int)} (h : IsM d m) : Sq d m := h.2
theorem paired_at {α β : Type} {R : α → β → Prop} : ∀ {l : List α} {k : List β} {i : Nat} {b : β}, Paired R l k → k[i]? = some b → ∃ a, l[i]? = some a ∧ R a b
  | _, _, _, _, .nil, h => by simp at h
  | _, _, 0, _, .cons h _, e => by simp at e; subst e; exact ⟨_, rfl, h⟩
  | _, _, i + 1, _, .cons _ r, e => by
    obtain ⟨a, h1, h2⟩ := paired_at (i := i) r (by simpa using e)
    exact ⟨a, by simpa using h1, h2⟩
theorem Sq.len {d : D} {m : List (List Int)} (h : Sq d m) : lenD d = some m.length := by
  obtain ⟨ds, h1, h2⟩ := h
  rw [← Paired.length h2]
  exact (seq_of h1).2
theorem Sq.at_ {d : D} {m : List (List Int)} (h : Sq d m) {i : Nat} (hi : i < m.length) : ∃ e, ixD d (i : Int) = some e ∧ seqD e = some ((m.getD i []).map D.int) := by
  obtain ⟨ds, h1, h2⟩ := h
  have hm : m[i]? = some (m.getD i []) := by rw [List.getD_eq_getElem?_getD, List.getElem?_eq_getElem hi]; rfl
  obtain ⟨e, e1, e2⟩ := paired_at h2 hm
  refine ⟨e, ?_, e2⟩
  cases d <;> first | (cases h1; exact atI_nat e1) | cases h1
theorem sqV_at {e : D} {r : List Int} (h : seqD e = some (r.map D.int)) {j : Nat} (hj : j < r.length) : ixD e (j : Int) = some (.int (r.getD j 0)) := by
  have e1 : (r.map D.int)[j]? = some (.int (r.getD j 0)) := by
    rw [List.getElem?_map, List.getElem?_eq_getElem hj, List.getD_eq_getElem?_getD, List.getElem?_eq_getElem hj]
    rfl
  cases e <;> first | (cases h; exact atI_nat e1) | cases h
theorem sqV_len {e : D} {r : List Int} (h : seqD e = some (r.map D.int)) : lenD e = some r.length := by
  have := (seq_of h).2
  rwa [List.length_map] at this
theorem ev_at {C : Cc} {E : List O} {M M1 M' : Mem} {a b c : Expr} {p1 p2 : Pos} {d : D} {m : List (List Int)} {i j : Nat} (h : Sq d m) (ha : EV C a E M (.dat d) M1) (hb : EV C b E M1 (.dat (.int (i : Int))) M1) (hc : EV C c E M1 (.dat (.int (j : Int))) M') (hi : i < m.length) (hj : j < (m.getD i []).length) (h1 : PlainIx b := by exact fun _ _ => rfl) (h2 : PlainIx c := by exact fun _ _ => rfl) :
    EV C (.Subscript (.Subscript a b p1) c p2) E M (.dat (.int (gE m i j))) M' := by
  obtain ⟨e, e1, e2⟩ := h.at_ hi
  exact EV.ix (EV.ix ha hb e1 h1) hc (sqV_at e2 hj) h2
end
section
variable {g : Pg}
def mostV (b : Nat) (v : List Int) : Nat := v.foldl (fun b x => max b x.natAbs) b
def mostF (m : List (List Int)) : Nat := m.foldl mostV 0
theorem mostV_le {B : Nat} : ∀ {v : List Int} {b : Nat}, mostV b v ≤ B ↔ b ≤ B ∧ ∀ x ∈ v, x.natAbs ≤ B
  | [], b => by simp [mostV]
  | x :: v, b => by
    show mostV (max b x.natAbs) v ≤ B ↔ _
    rw [mostV_le]
    simp only [List.mem_cons, forall_eq_or_imp]
    constructor
    · rintro ⟨h1, h2⟩; exact ⟨by omega, by omega, h2⟩
    · rintro ⟨h1, h2, h3⟩; exact ⟨by omega, h3⟩
theorem mostF_le' {B : Nat} : ∀ {m : List (List Int)} {b : Nat}, m.foldl mostV b ≤ B ↔ b ≤ B ∧ ∀ q ∈ m, ∀ x ∈ q, x.natAbs ≤ B
  | [], b => by simp
  | q :: m, b => by
    show m.foldl mostV (mostV b q) ≤ B ↔ _
    rw [mostF_le', mostV_le]
    simp only [List.mem_cons, forall_eq_or_imp]
    constructor
    · rintro ⟨⟨h1, h2⟩, h3⟩; exact ⟨h1, h2, h3⟩
    · rintro ⟨h1, h2, h3⟩; exact ⟨⟨h1, h2⟩, h3⟩
theorem mostF_le {B : Nat} {m : List (List Int)} : mostF m ≤ B ↔ ∀ q ∈ m, ∀ x ∈ q, x.natAbs ≤ B := by
  unfold mostF
  rw [mostF_le']
  simp
/-- where a row begins -/
def headF (v : List Int) : Nat := match leadF v with
  | some p => p
  | none => v.length
def headsF (m : List (List Int)) : List Nat := m.map headF
theorem filter_head {v : List Int} {p : Nat} (h : leadF v = some p) : ((List.range v.length).filter fun j => !decide (v.getD j 0 = 0)).head? = some p := by
  obtain ⟨h1, h2, h3⟩ := leadF_lt h
  have e : List.range v.length = List.range p ++ (List.range' p (v.length - p)) := by
    rw [List.range_eq_range', List.range_eq_range', show v.length = p + (v.length - p) by omega, ← List.range'_append_1]
    simp
  rw [e, List.filter_append]
  have e1 : (List.range p).filter (fun j => !decide (v.getD j 0 = 0)) = [] := by
    rw [List.filter_eq_nil_iff]
    intro j hj
    rw [h3 j (List.mem_range.mp hj)]
    simp
  rw [e1, List.nil_append, show v.length - p = (v.length - p - 1) + 1 by omega, List.range'_succ, List.filter_cons, if_pos (by simpa using h2)]
  rfl
theorem filter_none {v : List Int} (h : leadF v = none) : ((List.range v.length).filter fun j => !decide (v.getD j 0 = 0)) = [] := by
  rw [List.filter_eq_nil_iff]
  intro j _
  rw [leadF_none h j]
  simp
end
section
theorem SB.forO {C : Cc} {E E0 : List O} {M M0 : Mem} {n : Nat} {it : Nat → O} {inv : Mem → Prop} {tg iter : Expr} {body rest : List Stmt} {pos : Pos} {stat : Nat → Option O} {r : Out} (hs : EI C tg iter E M n it M0 inv) (hE : Fg E E0) (hinv : inv M0)
    (step : ∀ i, i < n → ∃ E1, EG C tg (it i) E0 M0 E1 M0 ∧ (stat i = none → ∃ E2, Fg E2 E0 ∧ SB C body E1 M0 (.nx E2 M0)) ∧ ∀ o, stat i = some o → SB C body E1 M0 (.rt o M0))
    (hrest : (∀ i, i < n → stat i = none) → SB C rest E0 M0 r) (hret : ∀ k o, k < n → stat k = some o → (∀ j, j < k → stat j = none) → r = .rt o M0) (hf : ∀ env x, foldedSetIterable iter env x = pure x := by intro _ _; rfl) : SB C (.For tg iter body [] pos :: rest) E M r := by
  by_cases hall : ∀ i, i < n → stat i = none
  · refine SB.cons (ST.for (m := n) (n := n) (E_ := fun _ => E0) (M_ := fun _ => M0) hs hE rfl (Nat.le_refl _) (fun _ _ => hinv) (fun i hi => ?_) (.inl ⟨rfl, rfl⟩) hf) (hrest hall)
    obtain ⟨E1, h1, h2, _⟩ := step i hi
    obtain ⟨E2, h4, h5⟩ := h2 (hall i hi)
    exact ⟨E1, M0, E2, h1, h4, .inl h5⟩
  · have hex : ∃ i, i < n ∧ stat i ≠ none := by
      refine Classical.byContradiction fun h => hall fun i hi => ?_
      cases hsi : stat i with
      | none => rfl
      | some o => exact absurd ⟨i, hi, by rw [hsi]; exact fun z => nomatch z⟩ h
    obtain ⟨i, hi, hg⟩ := hex
    obtain ⟨k, hk, hkp, hmin⟩ := least (P := fun j => j < n ∧ stat j ≠ none) i ⟨hi, hg⟩
    have hj : ∀ j, j < k → stat j = none := fun j hj => by
      cases hsj : stat j with
      | none => rfl
      | some o => exact absurd ⟨by omega, by rw [hsj]; exact fun z => nomatch z⟩ (hmin j hj)
    obtain ⟨o, ho⟩ : ∃ o, stat k = some o := by
      cases hsk : stat k with
      | none => exact absurd hsk hkp.2
      | some o => exact ⟨o, rfl⟩
    rw [hret k o hkp.1 ho hj]
    obtain ⟨E1, h1, _, h3⟩ := step k hkp.1
    refine SB.stop (ST.for (m := k) (n := n) (E_ := fun _ => E0) (M_ := fun _ => M0) hs hE rfl (Nat.le_of_lt hkp.1) (fun _ _ => hinv) (fun j hjk => ?_) (.inr ⟨hkp.1, E1, M0, h1, .inl ⟨o, M0, h3 o ho, rfl⟩⟩) hf)
    obtain ⟨E1', h1', h2', _⟩ := step j (by omega)
    obtain ⟨E2, h4, h5⟩ := h2' (hj j hjk)
    exact ⟨E1', M0, E2, h1', h4, .inl h5⟩
end
section
variable {g : Pg}
theorem lN_at {l : List Nat} {i : Nat} (h : i < l.length) : ixD (lN l) (i : Int) = some (.int (l.getD i 0 : Int)) := by
  refine atI_nat ?_
  rw [List.getElem?_map, List.getElem?_eq_getElem h, List.getD_eq_getElem?_getD, List.getElem?_eq_getElem h]
  rfl
theorem lN_len {l : List Nat} : lenD (lN l) = some l.length := by
  show some (List.map _ _).length = _
  rw [List.length_map]
def hd (m : List (List Int)) (i : Nat) : Nat := (headsF m).getD i 0
theorem hd_eq {m : List (List Int)} {i : Nat} (h : i < m.length) : hd m i = headF (m.getD i []) := by
  unfold hd headsF
  rw [List.getD_eq_getElem?_getD, List.getElem?_map, List.getElem?_eq_getElem h, List.getD_eq_getElem?_getD, List.getElem?_eq_getElem h]
  rfl
end
section
theorem sw_cell {elt : Expr} {gs : List Comprehension} {scope : Scope} {pos py : Pos} {y : Str} {l : Nat} {env : Env} (hy : env.scope.names.lookup y = some .cell) : swapsWith (.ListComp elt gs scope pos) (some (.Name y py)) l env = pure false := by
  have ky : env.kindOf y = some .cell := hy
  unfold swapsWith
  simp only [ky]
  have : (some NameKind.cell == some NameKind.local) = false := by decide
  rw [this, Bool.and_false]
  rfl
theorem ST.setC {C : Cc} {E : List O} {M M' : Mem} {o : O} {pos : Pos} (i : Nat) {x : Str} {e : Expr} {p' : Pos} (h : EV C e E M o M') (nd : C.N.Nodup) (hs : ∀ env : Env, env.scope = C.sc → swapsWith e (some (.Name x p')) pos.line env = pure false) (hi : C.N[i]? = some x := by rfl) (hx : Loc C.sc x := by first | exact Or.inl rfl | exact Or.inr rfl)
    (hf : C.fn x = true ∨ C.sc.names.lookup x = some .local := by first | exact .inl rfl | exact .inr rfl) : ST C (.Assign [.Name x p'] e pos) E M (.nx (E.set i o) M') :=
  ST.mk (fun X hX => ps_set (by rw [hX.N]; exact nd) (by rw [hX.N]; exact hi) (by rw [hX.sc]; exact hx) (ue hX e) (hs X.env hX.sc) (hf.elim (fun z => .inl (hX.fn x z)) (fun z => .inr (by rw [hX.sc]; exact z))))
    fun I H adr σ D s q => h I H adr σ _ s fun v I1 H1 adr1 s1 g1 v1 => q I1 H1 adr1 _ (s1.set v1) g1
end
section
variable {g : Pg}
theorem lead_eq {v : List Int} {p : Nat} (h1 : p < v.length) (h2 : v.getD p 0 ≠ 0) (h3 : ∀ j, j < p → v.getD j 0 = 0) : leadF v = some p := by
  cases hl : leadF v with
  | none => exact absurd (leadF_none hl p) h2
  | some q =>
    obtain ⟨a1, a2, a3⟩ := leadF_lt hl
    rcases Nat.lt_trichotomy p q with h | h | h
    · exact absurd (a3 p h) h2
    · rw [h]
    · exact absurd (h3 q h) a2
theorem lead_zero {v : List Int} (h : ∀ j, v.getD j 0 = 0) : leadF v = none := by
  cases hl : leadF v with
  | none => rfl
  | some q => exact absurd (h q) (leadF_lt hl).2.1
theorem HF.lead_row {h : List (List Int)} {w r : Nat} {pc : Nat → Nat} (f : HF h w r pc) {i : Nat} (hi : i < r) : leadF (h.getD i []) = some (pc i) := by
  have hl := f.wid _ (mem_getD (Nat.lt_of_lt_of_le hi f.le) : h.getD i [] ∈ h)
  exact lead_eq (by rw [hl]; exact f.lt i hi) (by have := f.pos i hi; unfold gE at this; omega) (fun j hj => f.left i hi j hj)
theorem HF.lead_low {h : List (List Int)} {w r : Nat} {pc : Nat → Nat} (f : HF h w r pc) {i : Nat} (hi : r ≤ i) : leadF (h.getD i []) = none := lead_zero fun j => f.low i hi j
theorem HF.hd {h : List (List Int)} {w r : Nat} {pc : Nat → Nat} (f : HF h w r pc) {i : Nat} (hi : i < r) : hd h i = pc i := by
  rw [hd_eq (Nat.lt_of_lt_of_le hi f.le)]
  unfold headF
  rw [f.lead_row hi]
theorem HF.hd_low {h : List (List Int)} {w r : Nat} {pc : Nat → Nat} (f : HF h w r pc) {i : Nat} (hi : r ≤ i) (hn : i < h.length) : Ab.hd h i = w := by
  rw [hd_eq hn]
  unfold headF
  rw [f.lead_low hi]
  exact f.wid _ (mem_getD hn)
theorem range_get {f : Nat → Int} {n j : Nat} (h : j < n) : ((List.range n).map f).getD j 0 = f j := by
  rw [List.getD_eq_getElem?_getD, List.getElem?_map, List.getElem?_range h]
  rfl
theorem range_out {f : Nat → Int} {n j : Nat} (h : n ≤ j) : ((List.range n).map f).getD j 0 = 0 := by
  rw [List.getD_eq_getElem?_getD, List.getElem?_eq_none (by rw [List.length_map, List.length_range]; exact h)]
  rfl
theorem drop_row {h : List (List Int)} {i : Nat} (hi : i < h.length) : h.drop i = h.getD i [] :: h.drop (i + 1) := by
  rw [List.drop_eq_getElem_cons hi, List.getD_eq_getElem?_getD, List.getElem?_eq_getElem hi]
  rfl
end
section
theorem HF.wdh {h : List (List Int)} {w r : Nat} {pc : Nat → Nat} (f : HF h w r pc) (hn : h ≠ []) : wd h = w := by
  cases h with
  | nil => exact absurd rfl hn
  | cons q l => exact f.wid q List.mem_cons_self
/-! ### the greatest divisor -/
theorem rep_zero {w j : Nat} : (List.replicate w (0 : Int)).getD j 0 = 0 := by
  rw [List.getD_eq_getElem?_getD, List.getElem?_replicate]
  split <;> rfl
end
section
/-! ### is_hermite and the law's look -/
/-! ### what else is told of the result -/
theorem nzR_some {v : List Int} {p : Nat} (h : leadF v = some p) : nzR v = true := by
  obtain ⟨h1, h2, _⟩ := leadF_lt h
  unfold nzR
  rw [List.any_eq_true]
  exact ⟨_, mem_getD h1, by simpa using h2⟩
theorem nzR_none {v : List Int} (h : leadF v = none) : nzR v = false := by
  unfold nzR
  rw [List.any_eq_false]
  intro x hx
  obtain ⟨j, hj, e⟩ := List.getElem_of_mem hx
  have := leadF_none h j
  rw [List.getD_eq_getElem?_getD, List.getElem?_eq_getElem hj, e] at this
  have : x = 0 := this
  simp [this]
theorem HF.nzs {h : List (List Int)} {w r : Nat} {pc : Nat → Nat} (f : HF h w r pc) : Ab.nzs h = h.take r := by
  unfold Ab.nzs
  have e : h = h.take r ++ h.drop r := (List.take_append_drop r h).symm
  have e1 : (h.take r).filter nzR = h.take r := by
    rw [List.filter_eq_self]
    intro q hq
    obtain ⟨i, hi, rfl⟩ := List.mem_take_iff_getElem.mp hq
    have hl := f.lead_row (i := i) (by omega)
    rw [List.getD_eq_getElem?_getD, List.getElem?_eq_getElem (by omega : i < h.length)] at hl
    exact nzR_some hl
  have e2 : (h.drop r).filter nzR = [] := by
    rw [List.filter_eq_nil_iff]
    intro q hq
    obtain ⟨i, h1, h2, e⟩ := drop_mem hq
    rw [nzR_none (lead_zero fun j => by rw [e, f.low i h1])]
    simp
  calc h.filter nzR = (h.take r ++ h.drop r).filter nzR := by rw [List.take_append_drop]
    _ = h.take r := by rw [List.filter_append, e1, e2, List.append_nil]
theorem HF.pivs {h : List (List Int)} {w r : Nat} {pc : Nat → Nat} (f : HF h w r pc) : (h.take r).map (fun q => optN (leadF q)) = ((List.range r).map pc).map fun (k : Nat) => D.int (k : Int) := by
  have hrl := f.le
  refine List.ext_getElem (by rw [List.length_map, List.length_take, List.length_map, List.length_map, List.length_range]; omega) fun i h1 h2 => ?_
  rw [List.length_map, List.length_map, List.length_range] at h2
  rw [List.getElem_map, List.getElem_map, List.getElem_map, List.getElem_range, List.getElem_take]
  have hl := f.lead_row h2
  rw [List.getD_eq_getElem?_getD, List.getElem?_eq_getElem (by omega : i < h.length)] at hl
  have hl' : leadF h[i] = some (pc i) := hl
  rw [hl']
  rfl
theorem HF.basis {h : List (List Int)} {w r : Nat} {pc : Nat → Nat} (f : HF h w r pc) (hne : h ≠ []) : basF h = h.take (max 1 r) := by
  unfold basF
  rw [f.nzs]
  have hrl := f.le
  have hlt : (h.take r).length = r := by rw [List.length_take]; omega
  rw [hlt]
  by_cases h0 : r > 0
  · rw [if_pos h0, show max 1 r = r by omega]
  · rw [if_neg h0, show max 1 r = 1 by omega]
    cases h with
    | nil => exact absurd rfl hne
    | cons q l => rfl
end
section
structure Rsl (a h : List (List Int)) : Prop where
  hl : h.length = a.length
  fm : ∃ r pc, HF h (wd a) r pc
  s1 : Sub h a
  s2 : Sub a h
  bd : ∀ i j, (gE h i j).natAbs ≤ 2 ^ (nb (wd a)).2.1
theorem HOf.rsl {a h : List (List Int)} (H : HOf a h) : Rsl a h := by
  obtain ⟨mm, hm, _, C, rfl⟩ := H
  generalize hw a mm (wd a) = u at C
  obtain ⟨pc, e⟩ := C.ech
  obtain ⟨s1, s2⟩ := C.rch.span
  refine ⟨C.wf.r, ⟨u.2, pc, ⟨by rw [C.wf.r]; exact C.tp, C.wf.rw, e.lt, e.inc, e.left, e.pos, e.abv, fun i hi j => ?_⟩⟩, s1, s2, C.ab⟩
  by_cases hj : j < wd a
  · exact e.low i hi j hj
  · exact gE_wide C.wf.rw (by omega)
/-! ### the greatest divisor -/
end
end
section
/-! ### the law's own words -/
section
variable {g : Pg}
abbrev rowC (ns : List Int) : Option (List O) := some ((ns.map D.int).map O.dat)
def Fit : Nat → D → Prop
  | _, .non => True
  | _, .bl _ => True
  | _, .int _ => True
  | _, .str _ => True
  | n + 1, .tup ds => ds.length < 100000 ∧ ∀ x ∈ ds, Fit n x
  | _, _ => False
theorem ok_law_number (W : Wd g) : FN g "_law_number" 1 (P1 fun d r => r = .bl d.isNum) := by
  refine FN.mk1 W.t_law_number c_law_number (fun _ _ _ _ _ _ us hl => match us, hl with | [_], _ => rfl) (fun d r h => ?_)
  subst h
  exact SB.one (ST.ret (EV.to (EV.and (EV.isInt (EV.nm 0) W.b.isinstance W.b.int) (fun _ => EV.and1 (EV.not (EV.isBool (EV.nm 0) W.b.isinstance W.b.bool))) (fun _ => rfl)) (by cases d <;> rfl)))
theorem same_flat {kk : Nat} (hkk : Nat.ble 1 kk = true) (W : Wd g) {e : D} (hf : Fit 0 e) : SB (mkC g n_law_same s_law_same kk) (defBody s_law_same) (pad n_law_same [.dat e, .dat e]) [] (.rt (.dat (.bl true)) []) := by
  have no1 : e.isTup = false → ∀ {r : Out}, SB (mkC g n_law_same s_law_same kk) ((defBody s_law_same).drop 1) (pad n_law_same [.dat e, .dat e]) [] r → SB (mkC g n_law_same s_law_same kk) (defBody s_law_same) (pad n_law_same [.dat e, .dat e]) [] r := fun he r h => SB.cons (ST.no (ET.to (ET.val (EV.isTuple (EV.nm 1) W.b.isinstance W.b.tuple)) he) SB.nil) h
  cases e with
  | bl k => exact no1 rfl (SB.cons (ST.no (ET.to (ET.isN (EV.nm 1)) rfl) SB.nil) (SB.stop (ST.yes (ET.to (ET.val (EV.isBool (EV.nm 1) W.b.isinstance W.b.bool)) rfl) (SB.one (ST.ret (EV.to (EV.and (EV.isBool (EV.nm 0) W.b.isinstance W.b.bool) (fun _ => EV.and1 (EV.cm (EV.nm 0) (EV.nm 1) CS.eqB)) (fun _ => rfl)) (by cases k <;> rfl)))))))
  | int i => exact no1 rfl (SB.cons (ST.no (ET.to (ET.isN (EV.nm 1)) rfl) SB.nil) (SB.cons (ST.no (ET.to (ET.val (EV.isBool (EV.nm 1) W.b.isinstance W.b.bool)) rfl) SB.nil) (SB.cons (ST.no (ET.to (ET.val (EV.isStr (EV.nm 1) W.b.isinstance W.b.str)) rfl) SB.nil) (SB.one (ST.ret (EV.to (EV.and (EV.c1 (ok_law_number W) (EV.nm 0) (by exact rfl) hkk) (fun _ => EV.and1 (EV.cm (EV.nm 0) (EV.nm 1) CS.eqI)) (fun _ => rfl)) (by simp [D.isNum])))))))
  | str x => exact no1 rfl (SB.cons (ST.no (ET.to (ET.isN (EV.nm 1)) rfl) SB.nil) (SB.cons (ST.no (ET.to (ET.val (EV.isBool (EV.nm 1) W.b.isinstance W.b.bool)) rfl) SB.nil) (SB.stop (ST.yes (ET.to (ET.val (EV.isStr (EV.nm 1) W.b.isinstance W.b.str)) rfl) (SB.one (ST.ret (EV.to (EV.and (EV.isStr (EV.nm 0) W.b.isinstance W.b.str) (fun _ => EV.and1 (EV.cm (EV.nm 0) (EV.nm 1) CS.eqS)) (fun _ => rfl)) (by simp [D.isStr])))))))) 
  | non => exact no1 rfl (SB.stop (ST.yes (ET.to (ET.isN (EV.nm 1)) rfl) (SB.one (ST.ret (EV.to (EV.isN (EV.nm 0)) rfl)))))
  | tup ds => exact hf.elim
  | lst ds => exact hf.elim
  | dct ks ds => exact hf.elim
theorem ok_law_same (W : Wd g) : ∀ n : Nat, FN g "_law_same" (n + 2) (P2 fun d e r => e = d ∧ Fit n d ∧ r = .bl true) := fun n => by
  induction n with
  | zero =>
    refine FN.mk2 W.t_law_same c_law_same (fun _ _ _ _ _ _ us hl => match us, hl with | [_, _], _ => rfl) (fun d e r h => ?_)
    obtain ⟨rfl, hf, rfl⟩ := h
    exact same_flat rfl W hf
  | succ n ih =>
    refine FN.mk2 W.t_law_same c_law_same (fun _ _ _ _ _ _ us hl => match us, hl with | [_, _], _ => rfl) (fun d e r h => ?_)
    obtain ⟨rfl, hf, rfl⟩ := h
    cases e with
    | tup ds =>
      refine SB.stop (ST.yes (ET.to (ET.val (EV.isTuple (EV.nm 1) W.b.isinstance W.b.tuple)) rfl) (SB.cons (ST.no (ET.to (EW.et (EW.or (k1 := false) (k2 := false) (ET.to (ET.not (ET.val (EV.isTuple (EV.nm 0) W.b.isinstance W.b.tuple))) rfl) (fun _ => EW.or1 (ET.to (ET.cm (EV.len (EV.nm 0) rfl W.b.len) (EV.len (EV.nm 1) rfl W.b.len) CS.neI) (by simp))) (fun z => nomatch z))) rfl) SB.nil) (SB.cons (ST.forN 2 (n := ds.length) (E_ := fun _ => [.dat (.tup ds), .dat (.tup ds), .no]) (M_ := fun _ => []) (EI.rng1 (EV.len (EV.nm 1) rfl W.b.len) W.b.range (by have := hf.1; omega)) Fg.refl rfl (fun _ _ => True.intro) c_law_same.nd (fun i hi => ?_)) (SB.one (ST.ret EV.bl)))))
      have hix : ixD (.tup ds) ((i : Nat) : Int) = some ds[i] := atI_nat (List.getElem?_eq_getElem hi)
      refine ⟨[.dat (.tup ds), .dat (.tup ds), .dat (.int (i : Int))], Fg.cons (Fg.cons (Fg.no Fg.nil)), ?_⟩
      rw [atI0_eq]
      exact SB.one (ST.no (ET.to (ET.not (ET.val (EV.c2 ih (EV.ix (EV.nm 0) (EV.nm 2) hix) (EV.ix (EV.nm 1) (EV.nm 2) hix) ⟨rfl, hf.2 _ (List.getElem_mem hi), rfl⟩ (Nat.ble_eq_true_of_le (Nat.le_refl _))))) rfl) SB.nil)
    | bl k => exact same_flat (Nat.ble_eq_true_of_le (by omega)) W True.intro
    | int i => exact same_flat (Nat.ble_eq_true_of_le (by omega)) W True.intro
    | str x => exact same_flat (Nat.ble_eq_true_of_le (by omega)) W True.intro
    | non => exact same_flat (Nat.ble_eq_true_of_le (by omega)) W True.intro
    | lst ds => exact hf.elim
    | dct ks ds => exact hf.elim
end
/-! ### what a def does, told by its run -/
section
variable {g : Pg}
def Run (g : Pg) (N : List Str) (st : Stmt) (k : Nat) (os : List O) (M : Mem) (o : O) (M' : Mem) : Prop := M.length ≤ M'.length ∧ LowO M'.length o ∧ LowM M'.length M' ∧ ∃ J, SB (mkC g N st k) (defBody st) (pad N os) M (.rt o (M' ++ J))
theorem FN.run {x : Str} {st : Stmt} {N ps : List Str} {k : Nat} (T : TxtF g x st) (S : FnScope N ps (defScope st))
    (hb : ∀ (kV doc pm : Value) (an : Option Addr) (cdv ct : Value) (us : List Value), us.length = ps.length → bindArgs (PySem.W.fnOf x x (defArgs st) (defBody st) (defScope st) .none kV doc pm an cdv ct) ⟨us, []⟩ = pure (ps.zip us)) :
    FN g x (k + 1) (fun os M o M' => os.length = ps.length ∧ Run g N st k os M o M') :=
  FN.mkJ T S hb (fun os M o M' h => h.1) (fun os M o M' h => ⟨h.2.1, h.2.2.1, h.2.2.2.1, h.2.2.2.2⟩)
end
section
variable {g : Pg}
section
variable {C : Cc} {E : List O} {M M1 : Mem} {elt iter : Expr} {p : Pos} {x : Str} {scope : Scope} {own : List (Str × Nat)} {d : D}
theorem LC.lX {α : Type} (jx : Nat) {xs : List α} {f : α → D} (A : Nat → Mem) (acc : Nat → List O) (ok : blkC C.N C.sc scope own = true) (nd : C.N.Nodup) (ho : own.map (·.2) = [jx]) (h : EV C iter E M (.dat d) M1) (hd : seqD d = some (xs.map f)) (hA : A 0 = M1 ++ [some []]) (ha : acc 0 = [])
    (step : ∀ (i : Nat) (hi : i < xs.length), ∃ o Mc, EV (C.blk scope) elt ((wipeE E [jx]).set jx (.dat (f xs[i]))) (A i) o Mc ∧ Mc[M1.length]? = some (some (acc i)) ∧ (acc i).length < 100000 ∧ A (i + 1) = Mc.set M1.length (some (acc i ++ [o])) ∧ acc (i + 1) = acc i ++ [o])
    (hi : C.N[jx]? = some x := by rfl) (hx : Loc (C.blk scope).sc x := by first | exact Or.inl rfl | exact Or.inr rfl) (hf' : (C.blk scope).fn x = true ∨ (C.blk scope).sc.names.lookup x = some .local := by first | exact .inl rfl | exact .inr rfl)
    (hf : ∀ env x, foldedSetIterable iter env x = pure x := by intro _ _; rfl) : LC C elt (.Name x p) iter [] scope own E M (.adr M1.length) (A xs.length) := by
  have hlen : (xs.map f).length = xs.length := List.length_map _
  have key := LC.gen (C := C) (tg := .Name x p) (elt := elt) (iter := iter) (ifs := []) (scope := scope) (own := own) (A := A) (acc := acc) ok nd (EI.seq h hd) hA ha (fun _ _ => True.intro) (fun i hi' => by
    rw [hlen] at hi'
    obtain ⟨o, Mc, h1, h2, h3, h4, h5⟩ := step i hi'
    refine ⟨_, _, true, _, EGv.nm jx nd (by rw [ho]; simp) hi hx hf', EP.nil, .inl ⟨rfl, o, Mc, ?_, h2, h3, h4, h5⟩⟩
    rw [ho, atO_map hi']
    exact h1) hf
  rw [hlen] at key
  exact key
end
theorem rowC_app {v : List Int} {x : Int} : rowC (v ++ [x]) = some ((v.map D.int).map O.dat ++ [O.dat (D.int x)]) := by
  show some _ = some _
  rw [List.map_append, List.map_append]
  rfl
end
/-! ### rows of numbers -/
section
variable {g : Pg}
def dl : Nat → List Int → List Int
  | 0, ns => ns
  | i + 1, ns => (dl i ns).dropLast
def pick (L : List Int) (i : Int) : Int := L.getD i.toNat 0
theorem pick_at {L : List Int} {i : Int} (h : 0 ≤ i ∧ i < L.length) : atI (L.map D.int) i = some (.int (pick L i)) := by
  obtain ⟨n, rfl⟩ : ∃ n : Nat, i = (n : Int) := ⟨i.toNat, by omega⟩
  refine atI_nat ?_
  rw [List.getElem?_map]
  have hn : n < L.length := by omega
  show _ = some (D.int (L.getD n 0))
  rw [getD_of_lt hn]
  rfl
theorem pick_mem {L : List Int} {i : Int} (h : 0 ≤ i ∧ i < L.length) : pick L i ∈ L := mem_getD (by omega)
theorem ixN_of {n k : Nat} (h : k < n) : ixN n (k : Int) = some k := by
  unfold ixN
  rw [if_pos (by omega), if_pos (by omega)]
  simp
theorem lowR {n : Nat} {ns : List Int} : LowM n [rowC ns] := LowM.dat LowM.nil
theorem EV.call1' {C : Cc} {E : List O} {M M1 M' : Mem} {e : Expr} {es : List Expr} {p pos : Pos} {x : Str} {d : D} {R : Rel} {kf n : Nat} {ds cs cs' : List D} (F : FN C.g x kf R) (ha : EA C (e :: es) E M (.adr n :: ds.map .dat) M1) (hc : M1[n]? = some (some (cs.map .dat))) (hR : R (.adr 0 :: ds.map .dat) [some (cs.map .dat)] (.dat d) [some (cs'.map .dat)]) (hk : Nat.ble kf C.k = true := by rfl)
    (hg : C.sc.names.lookup x = some .globalImplicit := by rfl) (hdb : (x == ("__debug__" : Str)) = false := by decide) (he : ∀ env, starEach (e :: es) env = (false, eval e env) :: starEach es env := by intro _; rfl) (hpl : ∀ env, (backTo pos (starEach es env)).any (·.1) = false := by intro _; rfl) (hM : M' = M1.set n (some (cs'.map .dat)) := by rfl) :
    EV C (.Call (.Name x p) (e :: es) [] pos) E M (.dat d) M' := by
  subst hM
  exact EV.call1 F ha hc hR hk hg hdb he hpl
theorem row_set {v : List Int} {j : Nat} {x : Int} : (some (((v.map D.int).map O.dat).set j (.dat (.int x))) : Option (List O)) = rowC (v.set j x) := by
  show _ = some _
  rw [List.map_set, List.map_set]
theorem adr_len {n b : Nat} : ((List.range n).map fun i => O.adr (b + i)).length = n := by rw [List.length_map, List.length_range]
theorem row_len {v : List Int} : ((v.map D.int).map O.dat).length = v.length := by rw [List.length_map, List.length_map]
theorem adr_at {n b i : Nat} (h : i < n) : atI ((List.range n).map fun k => O.adr (b + k)) ((i : Nat) : Int) = some (.adr (b + i)) := by
  refine atI_nat ?_
  rw [List.getElem?_map, List.getElem?_range h]
  rfl
theorem row_at {v : List Int} {j : Nat} (h : j < v.length) : atI ((v.map D.int).map O.dat) ((j : Nat) : Int) = some (.dat (.int (v.getD j 0))) := by
  refine atI_nat ?_
  rw [List.getElem?_map, List.getElem?_map, getD_of_lt h]
  rfl
end
/-! ### cells of a matrix -/
section
variable {g : Pg}
def matC (b : Nat) (m : List (List Int)) : Mem := some ((List.range m.length).map fun i => .adr (b + 1 + i)) :: m.map rowC
theorem matC_len {b : Nat} {m : List (List Int)} : (matC b m).length = 1 + m.length := by
  unfold matC
  rw [List.length_cons, List.length_map]
  omega
theorem mat_top {pre post : Mem} {b : Nat} {m : List (List Int)} (h : pre.length = b) : (pre ++ matC b m ++ post)[b]? = some (some ((List.range m.length).map fun i => .adr (b + 1 + i))) := by
  rw [List.append_assoc, List.getElem?_append_right (by omega), h, Nat.sub_self]
  rfl
theorem mat_get {pre post : Mem} {b i : Nat} {m : List (List Int)} (h : pre.length = b) (hi : i < m.length) : (pre ++ matC b m ++ post)[b + 1 + i]? = some (rowC (m.getD i [])) := by
  rw [List.append_assoc, List.getElem?_append_right (by omega), h, show b + 1 + i - b = i + 1 by omega, List.getElem?_append_left (by rw [matC_len]; omega)]
  show (m.map rowC)[i]? = _
  rw [List.getElem?_map, List.getElem?_eq_getElem hi, List.getD_eq_getElem?_getD, List.getElem?_eq_getElem hi]
  rfl
theorem mat_set {pre post : Mem} {b i : Nat} {m : List (List Int)} {r : List Int} (h : pre.length = b) (hi : i < m.length) : (pre ++ matC b m ++ post).set (b + 1 + i) (rowC r) = pre ++ matC b (m.set i r) ++ post := by
  rw [List.append_assoc, List.set_append_right _ _ (by omega), h, show b + 1 + i - b = i + 1 by omega, List.set_append_left _ _ (by rw [matC_len]; omega), List.append_assoc]
  congr 2
  show _ :: (m.map rowC).set i (rowC r) = some ((List.range (m.set i r).length).map _) :: (m.set i r).map rowC
  rw [List.length_set, List.map_set]
theorem rows_view {M : Mem} : ∀ (m : List (List Int)) (k : Nat), (∀ i, i < m.length → M[k + i]? = some (rowC (m.getD i []))) → Views M ((List.range m.length).map fun i => .adr (k + i)) (m.map lV)
  | [], _, _ => .nil
  | r :: m, k, h => by
    rw [List.length_cons, List.range_succ_eq_map, List.map_cons, List.map_map, List.map_cons]
    refine .cons (.cel (h 0 (by simp)) (Views.ints _)) ?_
    have := rows_view m (k + 1) fun i hi => by
      have := h (i + 1) (by simpa using hi)
      rw [show k + 1 + i = k + (i + 1) by omega]
      exact this
    have e : ((fun i => O.adr (k + i)) ∘ Nat.succ) = fun i => O.adr (k + 1 + i) := by
      funext i
      show O.adr (k + (i + 1)) = _
      congr 1
      omega
    rw [e]
    exact this
theorem mat_view {pre post : Mem} {b : Nat} {m : List (List Int)} (h : pre.length = b) : View (pre ++ matC b m ++ post) (.adr b) (lM m) := .cel (mat_top h) (rows_view m (b + 1) fun i hi => mat_get h hi)
theorem row_view {M : Mem} {k : Nat} {v : List Int} (h : M[k]? = some (rowC v)) : View M (.adr k) (lV v) := .cel h (Views.ints _)
theorem mat_view' {pre : Mem} {b : Nat} {m : List (List Int)} (h : pre.length = b) : View (pre ++ matC b m) (.adr b) (lM m) := by
  have := mat_view (pre := pre) (post := []) (m := m) h
  rw [List.append_nil] at this
  exact this
theorem mat_app {pre : Mem} {m : List (List Int)} {r : List Int} : (pre ++ matC pre.length m ++ [rowC r]).set pre.length (some (((List.range m.length).map fun i => .adr (pre.length + 1 + i)) ++ [.adr (pre.length + 1 + m.length)])) = pre ++ matC pre.length (m ++ [r]) := by
  rw [List.append_assoc, List.set_append_right _ _ (Nat.le_refl _), Nat.sub_self]
  congr 1
  show some _ :: (m.map rowC ++ [rowC r]) = some ((List.range (m ++ [r]).length).map _) :: (m ++ [r]).map rowC
  rw [List.length_append, List.length_singleton, List.range_succ, List.map_append, List.map_append]
  rfl
theorem Views.set {M : Mem} {d : D} : ∀ {os : List O} {ds : List D} (i : Nat), Views M os ds → Views M (os.set i (.dat d)) (ds.set i d)
  | _, _, _, .nil => .nil
  | _, _, 0, .cons _ r => .cons (.dat _) r
  | _, _, i + 1, .cons h r => .cons h (Views.set i r)
section
variable {C : Cc} {E : List O} {M : Mem} {elt iter : Expr} {p : Pos} {x : Str} {scope : Scope} {own : List (Str × Nat)} {d : D}
/-- [elt for x in xs], each element a new cell of numbers -/
theorem LC.lNest {α : Type} (jx : Nat) {pre : Mem} {xs : List α} {f : α → D} (r : α → List Int) (ok : blkC C.N C.sc scope own = true) (nd : C.N.Nodup) (ho : own.map (·.2) = [jx]) (h : EV C iter E M (.dat d) pre) (hd : seqD d = some (xs.map f)) (hz : xs.length < 100000)
    (step : ∀ y ∈ xs, ∀ M, EV (C.blk scope) elt ((wipeE E [jx]).set jx (.dat (f y))) M (.adr M.length) (M ++ [rowC (r y)]))
    (hi : C.N[jx]? = some x := by rfl) (hx : Loc (C.blk scope).sc x := by first | exact Or.inl rfl | exact Or.inr rfl) (hf' : (C.blk scope).fn x = true ∨ (C.blk scope).sc.names.lookup x = some .local := by first | exact .inl rfl | exact .inr rfl)
    (hf : ∀ env x, foldedSetIterable iter env x = pure x := by intro _ _; rfl) : LC C elt (.Name x p) iter [] scope own E M (.adr pre.length) (pre ++ matC pre.length (xs.map r)) := by
  have key := LC.lX (C := C) (elt := elt) (p := p) (x := x) jx (xs := xs) (f := f) (M1 := pre) (fun k => pre ++ matC pre.length ((xs.take k).map r)) (fun k => (List.range k).map fun q => .adr (pre.length + 1 + q)) ok nd ho h hd rfl rfl (fun i hi' => by
    have hl : ((xs.take i).map r).length = i := by rw [List.length_map, List.length_take]; omega
    have hml : (pre ++ matC pre.length ((xs.take i).map r)).length = pre.length + 1 + i := by rw [List.length_append, matC_len, hl]; omega
    refine ⟨.adr (pre.length + 1 + i), pre ++ matC pre.length ((xs.take i).map r) ++ [rowC (r xs[i])], ?_, ?_, ?_, ?_, ?_⟩
    · rw [← hml]
      exact step _ (List.getElem_mem hi') _
    · rw [mat_top rfl, hl]
    · rw [List.length_map, List.length_range]; omega
    · have := mat_app (pre := pre) (m := (xs.take i).map r) (r := r xs[i])
      rw [hl] at this
      rw [this, List.take_succ_eq_append_getElem hi', List.map_append]
      rfl
    · rw [List.range_succ, List.map_append]
      rfl) hi hx hf' hf
  rw [List.take_length] at key
  exact key
end
end
end
section
/-! ### reducing by a basis -/
section
variable {g : Pg}
def pvt (B : List (List Int)) (i : Nat) : Nat := (leadF (B.getD i [])).getD 0
def red (B : List (List Int)) (v : List Int) : Nat → List Int
  | 0 => v
  | i + 1 => lessV (red B v i) (((red B v i).getD (pvt B i) 0).fdiv (gE B i (pvt B i))) (B.getD i [])
def quo (B : List (List Int)) (v : List Int) (i : Nat) : Int := ((red B v i).getD (pvt B i) 0).fdiv (gE B i (pvt B i))
def bas (B : List (List Int)) (w : Nat) : List (List Int) := if B = [] then [List.replicate w 0] else B
structure RedOk (B : List (List Int)) (w : Nat) (v : List Int) : Prop where
  hf : ∃ pc, HF B w B.length pc
  hl : v.length = w
  l8 : B.length < 1000 ∧ w < 1000
  ok : ∀ i, i < B.length → ∀ y ∈ B.getD i [], IntMulOk (quo B v i) y
theorem HF.pvt {B : List (List Int)} {w r : Nat} {pc : Nat → Nat} (f : HF B w r pc) {i : Nat} (hi : i < r) : Ab.pvt B i = pc i := by
  unfold Ab.pvt
  rw [f.lead_row hi]
  rfl
theorem lessV_ln {v w : List Int} {k : Int} (h : v.length = w.length) : (lessV v k w).length = v.length := by
  unfold lessV
  rw [List.length_map, List.length_zip]
  omega
theorem HF.row_len {B : List (List Int)} {w r : Nat} {pc : Nat → Nat} (f : HF B w r pc) {i : Nat} (hi : i < B.length) : (B.getD i []).length = w := f.wid _ (mem_getD hi)
theorem red_len {B : List (List Int)} {w : Nat} {pc : Nat → Nat} {v : List Int} (f : HF B w B.length pc) (hl : v.length = w) : ∀ i, i ≤ B.length → (red B v i).length = w
  | 0, _ => hl
  | i + 1, h => by
    have ih := red_len f hl i (by omega)
    show (lessV (red B v i) _ _).length = _
    rw [lessV_ln (by rw [ih, f.row_len (by omega)]), ih]
theorem lessV_ent {v w : List Int} {k : Int} (h : v.length = w.length) (j : Nat) : (lessV v k w).getD j 0 = v.getD j 0 - k * w.getD j 0 := by
  by_cases hj : j < v.length
  · rw [List.getD_eq_getElem?_getD, List.getElem?_eq_getElem (by rw [lessV_ln h]; exact hj), List.getD_eq_getElem?_getD, List.getElem?_eq_getElem hj, List.getD_eq_getElem?_getD, List.getElem?_eq_getElem (by omega : j < w.length)]
    unfold lessV
    simp
  · rw [List.getD_eq_getElem?_getD, List.getElem?_eq_none (by rw [lessV_ln h]; omega), List.getD_eq_getElem?_getD, List.getElem?_eq_none (by omega), List.getD_eq_getElem?_getD, List.getElem?_eq_none (by omega : w.length ≤ j)]
    show (0 : Int) = 0 - k * 0
    omega
theorem red_at {B : List (List Int)} {w : Nat} {pc : Nat → Nat} {v : List Int} (f : HF B w B.length pc) (hl : v.length = w) {i : Nat} (hi : i < B.length) (j : Nat) : (red B v (i + 1)).getD j 0 = (red B v i).getD j 0 - quo B v i * gE B i j := by
  show (lessV (red B v i) _ _).getD j 0 = _
  rw [lessV_ent (by rw [red_len f hl i (by omega), f.row_len hi])]
  rfl
theorem ST.forE {C : Cc} {E : List O} {M M1 : Mem} {tg iter : Expr} {body : List Stmt} {pos : Pos} {E_ : Nat → List O} {M_ : Nat → Mem} {n : Nat} {it : Nat → O} {inv : Mem → Prop} (hs : EI C tg iter E M n it M1 inv) (hE : Fg E (E_ 0)) (hM : M_ 0 = M1) (hinv : ∀ i, i ≤ n → inv (M_ i))
    (step : ∀ i, i < n → ∃ E1 Ma E2, EG C tg (it i) (E_ i) (M_ i) E1 Ma ∧ Fg E2 (E_ (i + 1)) ∧ SB C body E1 Ma (.nx E2 (M_ (i + 1)))) (hf : ∀ env x, foldedSetIterable iter env x = pure x := by intro _ _; rfl) : ST C (.For tg iter body [] pos) E M (.nx (E_ n) (M_ n)) :=
  ST.for hs hE hM (Nat.le_refl _) hinv (fun i hi => let ⟨E1, Ma, E2, h1, h2, h3⟩ := step i hi; ⟨E1, Ma, E2, h1, h2, .inl h3⟩) (.inl ⟨rfl, rfl⟩) hf
theorem atZ_at {B : List (List Int)} {i : Nat} (hi : i < B.length) : atZ (B.map tV) ((List.range B.length).map fun i => D.int (pvt B i : Int)) i = .dat (.tup [tV (B.getD i []), .int (pvt B i : Int)]) := by
  unfold atZ
  rw [List.getD_eq_getElem?_getD, List.getD_eq_getElem?_getD, List.getElem?_map, List.getElem?_map, List.getElem?_range hi, List.getElem?_eq_getElem hi, List.getD_eq_getElem?_getD, List.getElem?_eq_getElem hi]
  rfl
def seqB : D → Bool
  | .tup _ => true
  | _ => false
theorem seqK_of {d : D} {ds : List D} (h : seqD d = some ds) : d = seqK (seqB d) ds := by
  cases d <;> first | (cases h; rfl) | cases h
theorem ok_less2 (W : Wd g) : FN g "less_multiple" 1 (P3 fun d e f r => ∃ v k w, d = lV v ∧ e = .int k ∧ seqD f = some (w.map D.int) ∧ v.length < 100000 ∧ v.length = w.length ∧ (∀ y ∈ w, IntMulOk k y) ∧ r = lV (lessV v k w)) := by
  refine FN.mk3 W.t_less_multiple c_less_multiple (fun _ _ _ _ _ _ us hl => match us, hl with | [_, _, _], _ => rfl) (fun d e f r h => ?_)
  obtain ⟨v, k, w, rfl, rfl, hf, hz, hl, hm, rfl⟩ := h
  have ef := seqK_of hf
  generalize seqB f = kf at ef
  subst ef
  refine SB.one (ST.ret (EV.to (LC.ev (LC.lZM false kf 3 4 (xs := v) (ys := w) (f1 := D.int) (f2 := D.int) (g := fun x y => .int (x - k * y)) (own := [("one", 3), ("other", 4)]) (by rfl) c_less_multiple.nd rfl (EV.nm 0) (EV.nm 2) hl W.b.zip (Nat.le_refl _) OkM.refl hz
    (fun x _ y hy M => EV.sub (EV.nm 3) (EV.mul (EV.nm 1) (EV.nm 4) (hm y hy))))) ?_))
  show O.dat (.lst _) = O.dat (.lst _)
  unfold lessV
  rw [List.map_map]
  rfl
theorem bas_ne {B : List (List Int)} {w : Nat} : bas B w ≠ [] := by
  unfold bas
  split
  · exact List.cons_ne_nil _ _
  · assumption
theorem HF.head_nz {B : List (List Int)} {w : Nat} {pc : Nat → Nat} (f : HF B w B.length pc) (hB : B ≠ []) : nzR (B.headD []) = true := by
  cases B with
  | nil => exact absurd rfl hB
  | cons q l =>
    have := f.lead_row (i := 0) (Nat.succ_pos _)
    exact nzR_some this
theorem rep_nz {w : Nat} : nzR (List.replicate w 0) = false := nzR_none (lead_zero fun j => rep_zero)
theorem HF.pv {B : List (List Int)} {w : Nat} {pc : Nat → Nat} (f : HF B w B.length pc) : (Ab.nzs B).map (fun q => optN (leadF q)) = (List.range B.length).map fun i => D.int (Ab.pvt B i : Int) := by
  rw [f.nzs, f.pivs, List.map_map]
  refine List.map_congr_left fun i hi => ?_
  show D.int (pc i : Int) = _
  rw [f.pvt (List.mem_range.mp hi)]
theorem ok_reduced_by (W : Wd g) : FN g "reduced_by" 33 (P2 fun d e r => ∃ B w v, RedOk B w v ∧ d = tM (bas B w) ∧ seqD e = some (v.map D.int) ∧ r = tV (red B v B.length)) := by
  refine FN.mk2 W.t_reduced_by c_reduced_by (fun _ _ _ _ _ _ us hl => match us, hl with | [_, _], _ => rfl) (fun d e r h => ?_)
  obtain ⟨B, w, v, R, rfl, he, rfl⟩ := h
  obtain ⟨pc, f⟩ := R.hf
  let E : D → D → O → O → List O := fun e fd rw cl => [.dat (tM (bas B w)), .dat e, .dat fd, rw, cl]
  refine SB.cons (E1 := E e (lV v) .no .no) (M1 := []) (ST.set 2 (EV.list (EV.nm 1) he W.b.list) c_reduced_by.nd) ?_
  by_cases hB : B = []
  · subst hB
    exact SB.stop (ST.yes (ET.to (ET.val (EV.c1 (ok_is_zero W) (EV.ix (EV.nm 0) EV.int (ix_tM0 bas_ne)) ⟨_, rfl, rfl⟩)) (by show (!nzR (List.replicate w 0)) = true; rw [rep_nz]; rfl)) (SB.one (ST.ret (EV.tuple (EV.nm 2) rfl W.b.tuple))))
  · have eb : bas B w = B := if_neg hB
    refine SB.cons (M1 := []) (E1 := E e (lV v) .no .no) (ST.no (ET.to (ET.val (EV.c1 (ok_is_zero W) (EV.ix (EV.nm 0) EV.int (ix_tM0 bas_ne)) ⟨_, rfl, rfl⟩)) (by rw [eb, f.head_nz hB]; rfl)) SB.nil) ?_
    have hn : (nzs (bas B w)).map (fun q => optN (leadF q)) = (List.range B.length).map fun i => D.int (pvt B i : Int) := by
      rw [eb]
      exact f.pv
    have hle : (B.map tV).length = B.length := List.length_map _
    refine SB.cons (E1 := E e (lV (red B v B.length)) .no .no) (M1 := []) (ST.forE (n := B.length) (E_ := fun i => E e (lV (red B v i)) .no .no) (M_ := fun _ => []) (hle ▸ EI.zipM true false (ds := B.map tV) (es := (List.range B.length).map fun i => D.int (pvt B i : Int)) (EV.to (EV.nm 0) (by show _ = O.dat (tM B); rw [eb])) (EV.to (EV.c1 (ok_pivots_of W) (EV.nm 0) ⟨bas B w, rfl, by rw [eb]; have := R.l8; omega, rfl⟩) (by rw [hn]; rfl)) (by rw [List.length_map, List.length_map, List.length_range]) W.b.zip) Fg.refl rfl (fun _ _ => True.intro) (fun i hi => ?_)) (SB.one (ST.ret (EV.tuple (EV.nm 2) rfl W.b.tuple)))
    refine ⟨E e (lV (red B v i)) (.dat (tV (B.getD i []))) (.dat (.int (pvt B i : Int))), [], E e (lV (red B v (i + 1))) (.dat (tV (B.getD i []))) (.dat (.int (pvt B i : Int))), ?_, Fg.cons (Fg.cons (Fg.cons (Fg.no (Fg.no Fg.nil)))), ?_⟩
    · rw [atZ_at hi]
      exact EG.tup (ds := [tV (B.getD i []), .int (pvt B i : Int)]) (EGs.cons (EG.nm 3 c_reduced_by.nd) (EGs.cons (EG.nm 4 c_reduced_by.nd) EGs.nil))
    · have hrl := f.row_len hi
      have hpl : pvt B i < w := by rw [f.pvt hi]; exact f.lt i hi
      have hr := red_len f R.hl i (by omega)
      have l8 := R.l8
      have hp : gE B i (pvt B i) ≠ 0 := by
        rw [f.pvt hi]
        have := f.pos i hi
        omega
      exact SB.one (ST.set 2 (EV.c3 (ok_less2 W) (EV.nm 2) (EV.bin (EV.ix (EV.nm 2) (EV.nm 4) (ix_lV (by omega))) (EV.ix (EV.nm 3) (EV.nm 4) (ix_tV (by omega))) (BS.fdivX W.seer W.tree hp)) (EV.nm 3) ⟨_, _, B.getD i [], rfl, rfl, rfl, by omega, by omega, R.ok i hi, rfl⟩) c_reduced_by.nd)
end
end
section
/-! ### bases of matrices -/
section
variable {g : Pg}
structure IsB (m B : List (List Int)) : Prop where
  mx : Mx m
  hf : ∃ pc, HF B (wd m) B.length pc
  s1 : Sub m B
  s2 : Sub B m
theorem HF.take {h : List (List Int)} {w r : Nat} {pc : Nat → Nat} (f : HF h w r pc) : HF (h.take r) w (h.take r).length pc ∧ (h.take r).length = r ∧ Sub (h.take r) h ∧ Sub h (h.take r) := by
  have hl : (h.take r).length = r := by rw [List.length_take]; have := f.le; omega
  have e : ∀ i, i < r → ∀ j, gE (h.take r) i j = gE h i j := fun i hi j => by
    have hi2 : i < h.length := Nat.lt_of_lt_of_le hi f.le
    unfold gE
    rw [List.getD_eq_getElem?_getD (l := h.take r), List.getElem?_take, if_pos hi, List.getD_eq_getElem?_getD (l := h)]
  refine ⟨⟨Nat.le_of_eq rfl, fun q hq => f.wid q (List.mem_of_mem_take hq), fun i hi => f.lt i (by omega), fun i j h1 h2 => f.inc i j h1 (by omega), fun i hi j hj => ?_, fun i hi => ?_, fun k i h1 h2 => ?_, fun i hi j => ?_⟩, hl, fun q hq => InS.mem (List.mem_of_mem_take hq), fun q hq => ?_⟩
  · rw [e i (by omega)]
    exact f.left i (by omega) j hj
  · rw [e i (by omega)]
    exact f.pos i (by omega)
  · rw [e k (by omega), e i (by omega)]
    exact f.abv k i h1 (by omega)
  · have e0 : (h.take r).getD i [] = [] := by rw [List.getD_eq_getElem?_getD, List.getElem?_eq_none hi]; rfl
    unfold gE
    rw [e0]
    rfl
  · obtain ⟨i, hi, rfl⟩ := List.getElem_of_mem hq
    have eg : ∀ j, gE h i j = h[i].getD j 0 := fun j => by
      unfold gE
      rw [List.getD_eq_getElem?_getD (l := h), List.getElem?_eq_getElem hi]
      rfl
    by_cases hir : i < r
    · exact (InS.ix (l := h.take r) (i := i) (by omega)).congr fun j => by rw [e i hir, eg]
    · exact InS.zero.congr fun j => by rw [← eg, f.low i (by omega)]
theorem HF.eq {B B2 : List (List Int)} {w : Nat} {pc pc2 : Nat → Nat} (f : HF B w B.length pc) (f2 : HF B2 w B2.length pc2) (s1 : Sub B B2) (s2 : Sub B2 B) : B = B2 := by
  have hc := f.cols f2 s1 s2
  have hl : B.length = B2.length := by
    rcases Nat.lt_trichotomy B.length B2.length with h | h | h
    · exact absurd ((hc B.length).2 h) (Nat.lt_irrefl _)
    · exact h
    · exact absurd ((hc B2.length).1 h).1 (Nat.lt_irrefl _)
  exact f.uniq f2 hl s1 s2
theorem isB_ex {m : List (List Int)} (hm : Mx m) : ∃ B, IsB m B := by
  obtain ⟨h, H⟩ := hof_ex hm
  obtain ⟨r, pc, f⟩ := H.rsl.fm
  obtain ⟨f2, hl, t1, t2⟩ := f.take
  exact ⟨_, hm, ⟨pc, f2⟩, H.rsl.s2.trans t2, t1.trans H.rsl.s1⟩
theorem IsB.of {m B h : List (List Int)} (b : IsB m B) (H : HOf m h) : nzs h = B ∧ basF h = bas B (wd m) ∧ h.length < 100000 ∧ h ≠ [] := by
  obtain ⟨r, pc, f⟩ := H.rsl.fm
  obtain ⟨pc2, f2⟩ := b.hf
  obtain ⟨f3, hl, t1, t2⟩ := f.take
  have e : h.take r = B := f3.eq f2 ((t1.trans H.rsl.s1).trans b.s1) ((b.s2.trans H.rsl.s2).trans t2)
  have hn : h ≠ [] := fun z => by
    have := H.rsl.hl
    rw [z] at this
    exact b.mx.ne (List.eq_nil_of_length_eq_zero this.symm)
  refine ⟨by rw [f.nzs, e], ?_, by rw [H.rsl.hl]; exact b.mx.sm.1, hn⟩
  rw [f.basis hn]
  unfold bas
  by_cases h0 : B = []
  · rw [if_pos h0]
    rw [h0] at e
    have hr : r = 0 := by
      rw [← hl, e]
      rfl
    subst hr
    rw [show max 1 0 = 1 from rfl]
    cases h with
    | nil => exact absurd rfl hn
    | cons q l =>
      show [q] = _
      congr 1
      refine List.ext_getElem (by rw [List.length_replicate]; exact f.wid q List.mem_cons_self) fun j h1 h2 => ?_
      rw [List.getElem_replicate]
      have := f.low 0 (Nat.le_refl _) j
      unfold gE at this
      rw [List.getD_eq_getElem?_getD (l := (q :: l).getD 0 [])] at this
      have e2 : (q :: l).getD 0 [] = q := rfl
      rw [e2, List.getElem?_eq_getElem h1] at this
      exact this
  · rw [if_neg h0, ← e]
    have hr : 0 < r := Nat.pos_of_ne_zero fun z => h0 (by rw [← e, z]; rfl)
    rw [show max 1 r = r by omega]
theorem ok_basis2 (W : Wd g) : FN g "basis_of" 36 (P1 fun d r => ∃ m B, IsB m B ∧ d = tM m ∧ r = tM (bas B (wd m))) := (ok_basis_of W).imp fun os M o M' h => by
  obtain ⟨d, r, rfl, rfl, rfl, rfl, m, B, hb, rfl, rfl⟩ := h
  obtain ⟨h, H⟩ := hof_ex hb.mx
  obtain ⟨e1, e2, e3, e4⟩ := hb.of H
  exact ⟨_, _, rfl, rfl, rfl, rfl, m, h, H, rfl, e3, e4, by rw [e2]⟩
end
end
section
/-! ### what is checked -/
section
variable {g : Pg}
theorem ok_checked_vector (W : Wd g) : FN g "checked_vector" 4 (P1 fun d r => ∃ v, IsV d v ∧ r = tV v) := by
  refine FN.mk1 W.t_checked_vector c_checked_vector (fun _ _ _ _ _ _ us hl => match us, hl with | [_], _ => rfl) (fun d r h => ?_)
  obtain ⟨v, hv, rfl⟩ := h
  exact SB.cons (ST.no (ET.to (ET.not (ET.val (EV.c1 (ok_is_vector W) (EV.nm 0) (by exact rfl)))) (by rw [isVec_of hv]; rfl)) SB.nil) (SB.one (ST.ret (EV.tuple (EV.nm 0) hv.2 W.b.tuple)))
theorem ok_check_sizes (W : Wd g) : FN g "check_sizes" 1 (P1 fun d r => d = .bl true ∧ r = .non) := by
  refine FN.mkN1 W.t_check_sizes c_check_sizes (fun _ _ _ _ _ _ us hl => match us, hl with | [_], _ => rfl) (fun d r h => ?_)
  obtain ⟨rfl, rfl⟩ := h
  exact ⟨rfl, _, SB.one (ST.no (ET.to (ET.not (ET.val (EV.nm 0))) rfl) SB.nil)⟩
theorem ok_checked_pair (W : Wd g) : FN g "checked_pair" 6 (P2 fun d e r => ∃ m n, IsM d m ∧ IsM e n ∧ wd m = wd n ∧ r = .tup [tM m, tM n]) := by
  refine FN.mk2 W.t_checked_pair c_checked_pair (fun _ _ _ _ _ _ us hl => match us, hl with | [_, _], _ => rfl) (fun d e r h => ?_)
  obtain ⟨m, n, hm, hn, hw, rfl⟩ := h
  refine SB.cons (ST.set 2 (EV.c1 (ok_checked_matrix W) (EV.nm 0) ⟨m, hm, rfl⟩) c_checked_pair.nd) (SB.cons (ST.set 3 (EV.c1 (ok_checked_matrix W) (EV.nm 1) ⟨n, hn, rfl⟩) c_checked_pair.nd) (SB.cons
    (ST.exp (EV.c1 (ok_check_sizes W) (EV.cm (EV.len (EV.ix (EV.nm 2) EV.int (ix_tM0 hm.1.ne)) len_tV W.b.len) (EV.len (EV.ix (EV.nm 3) EV.int (ix_tM0 hn.1.ne)) len_tV W.b.len) CS.eqI) ⟨?_, rfl⟩)) (SB.one (ST.ret (EV.tup (ds := [tM m, tM n]) (EA.cons (EV.nm 2) (EA.cons (EV.nm 3) EA.nil)) (by show 2 ≤ 100000; decide))))))
  exact congrArg D.bl (decide_eq_true (congrArg Int.ofNat hw))
theorem ok_checked_with (W : Wd g) : FN g "checked_with" 6 (P2 fun d e r => ∃ m v, IsM d m ∧ IsV e v ∧ wd m = v.length ∧ r = .tup [tM m, tV v]) := by
  refine FN.mk2 W.t_checked_with c_checked_with (fun _ _ _ _ _ _ us hl => match us, hl with | [_, _], _ => rfl) (fun d e r h => ?_)
  obtain ⟨m, n, hm, hn, hw, rfl⟩ := h
  refine SB.cons (ST.set 2 (EV.c1 (ok_checked_matrix W) (EV.nm 0) ⟨m, hm, rfl⟩) c_checked_with.nd) (SB.cons (ST.set 3 (EV.c1 (ok_checked_vector W) (EV.nm 1) ⟨n, hn, rfl⟩) c_checked_with.nd) (SB.cons
    (ST.exp (EV.c1 (ok_check_sizes W) (EV.cm (EV.len (EV.ix (EV.nm 2) EV.int (ix_tM0 hm.1.ne)) len_tV W.b.len) (EV.len (EV.nm 3) len_tV W.b.len) CS.eqI) ⟨?_, rfl⟩)) (SB.one (ST.ret (EV.tup (ds := [tM m, tV n]) (EA.cons (EV.nm 2) (EA.cons (EV.nm 3) EA.nil)) (by show 2 ≤ 100000; decide))))))
  exact congrArg D.bl (decide_eq_true (congrArg Int.ofNat hw))
/-! ### matrices -/
end
/-! ### the program's words of lattices -/
section
variable {g : Pg}
def zr (B : List (List Int)) (v : List Int) : Bool := !nzR (red B v B.length)
theorem ok_has (W : Wd g) : FN g "has" 37 (P2 fun d e r => ∃ m B v, IsB m B ∧ RedOk B (wd m) v ∧ d = tM m ∧ seqD e = some (v.map D.int) ∧ r = .bl (zr B v)) := by
  refine FN.mk2 W.t_has c_has (fun _ _ _ _ _ _ us hl => match us, hl with | [_, _], _ => rfl) (fun d e r h => ?_)
  obtain ⟨m, B, v, hb, R, rfl, he, rfl⟩ := h
  exact SB.one (ST.ret (EV.c1 (ok_is_zero W) (EV.c2 (ok_reduced_by W) (EV.c1 (ok_basis2 W) (EV.nm 0) ⟨m, B, hb, rfl, rfl⟩) (EV.nm 1) ⟨B, wd m, v, R, rfl, he, rfl⟩) ⟨_, rfl, rfl⟩))
theorem ok_has_all (W : Wd g) : FN g "has_all" 37 (P2 fun d e r => ∃ m B n, IsB m B ∧ (∀ q ∈ n, RedOk B (wd m) q) ∧ n.length < 100000 ∧ d = tM m ∧ e = tM n ∧ r = .bl (n.all (zr B))) := by
  refine FN.mk2 W.t_has_all c_has_all (fun _ _ _ _ _ _ us hl => match us, hl with | [_, _], _ => rfl) (fun d e r h => ?_)
  obtain ⟨m, B, n, hb, R, hz, rfl, rfl, rfl⟩ := h
  refine SB.cons (E1 := [.dat (tM m), .dat (tM n), .dat (tM (bas B (wd m))), .no]) (M1 := []) (ST.set 2 (EV.c1 (ok_basis2 W) (EV.nm 0) ⟨m, B, hb, rfl, rfl⟩) c_has_all.nd) (SB.one (ST.ret (EV.to (EV.all (bs := n.map (zr B)) ?_ W.b.all) (by rw [all_map]))))
  rw [List.map_map]
  exact LC.ev (LC.lM 3 (xs := n) (f := tV) (own := [("row", 3)]) (by rfl) c_has_all.nd rfl (EV.nm 1) rfl (Nat.le_refl _) OkM.refl hz (fun q hq M => EV.c1 (ok_is_zero W) (EV.c2 (ok_reduced_by W) (EV.nm 2) (EV.nm 3) ⟨B, wd m, q, R q hq, rfl, rfl, rfl⟩) ⟨_, rfl, rfl⟩))
theorem ok_is_member (W : Wd g) : FN g "is_member" 38 (P2 fun d e r => ∃ m B v, IsB m B ∧ IsM d m ∧ IsV e v ∧ RedOk B (wd m) v ∧ r = .bl (zr B v)) := by
  refine FN.mk2 W.t_is_member c_is_member (fun _ _ _ _ _ _ us hl => match us, hl with | [_, _], _ => rfl) (fun d e r h => ?_)
  obtain ⟨m, B, v, hb, hm, hv, R, rfl⟩ := h
  exact SB.cons (ST.asg (EV.c2 (ok_checked_with W) (EV.nm 0) (EV.nm 1) ⟨m, v, hm, hv, R.hl.symm, rfl⟩) (EG.tup (EGs.cons (EG.nm 2 c_is_member.nd) (EGs.cons (EG.nm 3 c_is_member.nd) EGs.nil)))) (SB.one (ST.ret (EV.c2 (ok_has W) (EV.nm 2) (EV.nm 3) ⟨m, B, v, hb, R, rfl, rfl, rfl⟩)))
theorem ok_is_within (W : Wd g) : FN g "is_within" 38 (P2 fun d e r => ∃ m B n, IsB m B ∧ IsM d m ∧ IsM e n ∧ wd m = wd n ∧ (∀ q ∈ n, RedOk B (wd m) q) ∧ r = .bl (n.all (zr B))) := by
  refine FN.mk2 W.t_is_within c_is_within (fun _ _ _ _ _ _ us hl => match us, hl with | [_, _], _ => rfl) (fun d e r h => ?_)
  obtain ⟨m, B, n, hb, hm, hn, hw, R, rfl⟩ := h
  exact SB.cons (ST.asg (EV.c2 (ok_checked_pair W) (EV.nm 0) (EV.nm 1) ⟨m, n, hm, hn, hw, rfl⟩) (EG.tup (EGs.cons (EG.nm 2 c_is_within.nd) (EGs.cons (EG.nm 3 c_is_within.nd) EGs.nil)))) (SB.one (ST.ret (EV.c2 (ok_has_all W) (EV.nm 2) (EV.nm 3) ⟨m, B, n, hb, R, hn.1.sm.1, rfl, rfl, rfl⟩)))
theorem ok_same_lattice (W : Wd g) : FN g "same_lattice" 37 (P2 fun d e r => ∃ m B n B2, IsB m B ∧ IsB n B2 ∧ IsM d m ∧ IsM e n ∧ wd m = wd n ∧ r = .bl (decide (bas B (wd m) = bas B2 (wd m)))) := by
  refine FN.mk2 W.t_same_lattice c_same_lattice (fun _ _ _ _ _ _ us hl => match us, hl with | [_, _], _ => rfl) (fun d e r h => ?_)
  obtain ⟨m, B, n, B2, hb, hb2, hm, hn, hw, rfl⟩ := h
  refine SB.cons (ST.asg (EV.c2 (ok_checked_pair W) (EV.nm 0) (EV.nm 1) ⟨m, n, hm, hn, hw, rfl⟩) (EG.tup (EGs.cons (EG.nm 2 c_same_lattice.nd) (EGs.cons (EG.nm 3 c_same_lattice.nd) EGs.nil)))) (SB.one (ST.ret (EV.cm (EV.c1 (ok_basis2 W) (EV.nm 2) ⟨m, B, hb, rfl, rfl⟩) (EV.c1 (ok_basis2 W) (EV.nm 3) ⟨n, B2, hb2, rfl, rfl⟩) ?_)))
  rw [hw]
  exact CS.eqM
theorem ok_remainder (W : Wd g) : FN g "remainder" 37 (P2 fun d e r => ∃ m B v, IsB m B ∧ IsM d m ∧ IsV e v ∧ RedOk B (wd m) v ∧ r = tV (red B v B.length)) := by
  refine FN.mk2 W.t_remainder c_remainder (fun _ _ _ _ _ _ us hl => match us, hl with | [_, _], _ => rfl) (fun d e r h => ?_)
  obtain ⟨m, B, v, hb, hm, hv, R, rfl⟩ := h
  exact SB.cons (ST.asg (EV.c2 (ok_checked_with W) (EV.nm 0) (EV.nm 1) ⟨m, v, hm, hv, R.hl.symm, rfl⟩) (EG.tup (EGs.cons (EG.nm 2 c_remainder.nd) (EGs.cons (EG.nm 3 c_remainder.nd) EGs.nil)))) (SB.one (ST.ret (EV.c2 (ok_reduced_by W) (EV.c1 (ok_basis2 W) (EV.nm 2) ⟨m, B, hb, rfl, rfl⟩) (EV.nm 3) ⟨B, wd m, v, R, rfl, rfl, rfl⟩)))
end
end
section
/-! ### coordinates -/
section
variable {g : Pg}
def co (B : List (List Int)) (v : List Int) : List Int := if B = [] then [0] else (List.range B.length).map (quo B v)
theorem atI_last {α : Type} {xs : List α} {x : α} : atI (xs ++ [x]) (-1) = some x := by
  unfold atI ixN
  rw [List.length_append, List.length_singleton]
  rw [if_neg (by omega), if_pos (by omega)]
  rw [show (-1 + ((xs.length + 1 : Nat) : Int)).toNat = xs.length by omega]
  show (xs ++ [x])[xs.length]? = some x
  rw [List.getElem?_append_right (Nat.le_refl _), Nat.sub_self]
  rfl
theorem ok_in_basis (W : Wd g) : FN g "in_basis" 33 (P2 fun d e r => ∃ B w v, RedOk B w v ∧ d = tM (bas B w) ∧ seqD e = some (v.map D.int) ∧ r = tV (co B v)) := by
  refine FN.mk2x' W.t_in_basis c_in_basis (fun _ _ _ _ _ _ us hl => match us, hl with | [_, _], _ => rfl) (fun d e r h => ?_)
  obtain ⟨B, w, v, R, rfl, he, rfl⟩ := h
  obtain ⟨pc, f⟩ := R.hf
  unfold co
  by_cases hB : B = []
  · subst hB
    exact ⟨[], SB.stop (ST.yes (ET.to (ET.val (EV.c1 (ok_is_zero W) (EV.ix (EV.nm 0) EV.int (ix_tM0 bas_ne)) ⟨_, rfl, rfl⟩)) (by show (!nzR (List.replicate w 0)) = true; rw [rep_nz]; rfl)) (SB.one (ST.ret (EV.tup (ds := [.int 0]) (EA.cons EV.int EA.nil) (by simp)))))⟩
  · have eb : bas B w = B := if_neg hB
    have l8 := R.l8
    rw [if_neg hB]
    let E : O → D → O → O → List O := fun fd lf rw cl => [.dat (tM (bas B w)), .dat e, fd, .dat lf, rw, cl]
    refine ⟨[rowC ((List.range B.length).map (quo B v))], SB.cons (M1 := []) (E1 := [.dat (tM (bas B w)), .dat e, .no, .no, .no, .no]) (ST.no (ET.to (ET.val (EV.c1 (ok_is_zero W) (EV.ix (EV.nm 0) EV.int (ix_tM0 bas_ne)) ⟨_, rfl, rfl⟩)) (by rw [eb, f.head_nz hB]; rfl)) SB.nil) ?_⟩
    refine SB.cons (E1 := [.dat (tM (bas B w)), .dat e, .adr 0, .no, .no, .no]) (M1 := [rowC []]) (ST.set 2 (EV.cel EA.nil (by decide)) c_in_basis.nd) (SB.cons (E1 := E (.adr 0) (lV v) .no .no) (M1 := [rowC []]) (ST.set 3 (EV.list (EV.nm 1) he W.b.list) c_in_basis.nd) ?_)
    have hn : (nzs (bas B w)).map (fun q => optN (leadF q)) = (List.range B.length).map fun i => D.int (pvt B i : Int) := by
      rw [eb]
      exact f.pv
    have hle : (B.map tV).length = B.length := List.length_map _
    refine SB.cons (E1 := E (.adr 0) (lV (red B v B.length)) .no .no) (M1 := [rowC ((List.range B.length).map (quo B v))]) (ST.forE (n := B.length) (E_ := fun i => E (.adr 0) (lV (red B v i)) .no .no) (M_ := fun i => [rowC ((List.range i).map (quo B v))]) (hle ▸ EI.zipM true false (ds := B.map tV) (es := (List.range B.length).map fun i => D.int (pvt B i : Int)) (EV.to (EV.nm 0) (by show _ = O.dat (tM B); rw [eb])) (EV.to (EV.c1 (ok_pivots_of W) (EV.nm 0) ⟨bas B w, rfl, by rw [eb]; omega, rfl⟩) (by rw [hn]; rfl)) (by rw [List.length_map, List.length_map, List.length_range]) W.b.zip) Fg.refl rfl (fun _ _ => True.intro) (fun i hi => ?_)) (SB.one (ST.ret (EV.tupleC (ds := ((List.range B.length).map (quo B v)).map D.int) (EV.nm 2) rfl W.b.tuple)))
    refine ⟨E (.adr 0) (lV (red B v i)) (.dat (tV (B.getD i []))) (.dat (.int (pvt B i : Int))), [rowC ((List.range i).map (quo B v))], E (.adr 0) (lV (red B v (i + 1))) (.dat (tV (B.getD i []))) (.dat (.int (pvt B i : Int))), ?_, Fg.cons (Fg.cons (Fg.cons (Fg.cons (Fg.no (Fg.no Fg.nil))))), ?_⟩
    · rw [atZ_at hi]
      exact EG.tup (ds := [tV (B.getD i []), .int (pvt B i : Int)]) (EGs.cons (EG.nm 4 c_in_basis.nd) (EGs.cons (EG.nm 5 c_in_basis.nd) EGs.nil))
    · have hrl := f.row_len hi
      have hpl : pvt B i < w := by rw [f.pvt hi]; exact f.lt i hi
      have hr := red_len f R.hl i (by omega)
      have hp : gE B i (pvt B i) ≠ 0 := by
        rw [f.pvt hi]
        have := f.pos i hi
        omega
      have happ : (some ((((List.range i).map (quo B v)).map D.int).map O.dat ++ [O.dat (D.int (quo B v i))]) : Option (List O)) = rowC ((List.range (i + 1)).map (quo B v)) := by
        rw [List.range_succ, List.map_append, List.map_singleton, rowC_app]
      refine SB.cons (E1 := E (.adr 0) (lV (red B v i)) (.dat (tV (B.getD i []))) (.dat (.int (pvt B i : Int)))) (M1 := [rowC ((List.range (i + 1)).map (quo B v))]) (ST.to (ST.exp (EV.append (n := 0) (ps := (((List.range i).map (quo B v)).map D.int).map O.dat) (EV.nm 2) (EV.bin (EV.ix (EV.nm 3) (EV.nm 5) (ix_lV (by omega))) (EV.ix (EV.nm 4) (EV.nm 5) (ix_tV (by omega))) (BS.fdivX W.seer W.tree hp)) rfl rfl (by rw [row_len, List.length_map, List.length_range]; omega))) ?_) (SB.one (ST.set 3 (EV.c3 (ok_less2 W) (EV.nm 3) (EV.ixC (n := 0) (EV.nm 2) (EV.neg EV.int) rfl ?_) (EV.nm 4) ⟨_, quo B v i, B.getD i [], rfl, rfl, rfl, by omega, by omega, R.ok i hi, rfl⟩) c_in_basis.nd))
      · exact congrArg (fun z => Out.nx _ [z]) happ
      · have e2 : (((List.range (i + 1)).map (quo B v)).map D.int).map O.dat = (((List.range i).map (quo B v)).map D.int).map O.dat ++ [O.dat (.int (quo B v i))] := (Option.some.inj happ).symm
        rw [e2]
        exact atI_last
/-- what coordinates says -/
def coF (g : Pg) (ds : List D) (q : DX) : Prop := ∃ m B v d e, ds = [d, e] ∧ IsB m B ∧ IsM d m ∧ IsV e v ∧ RedOk B (wd m) v ∧ ((zr B v = true ∧ q = .val (tV (co B v))) ∨ (zr B v = false ∧ ∃ Ca, g.mg "Undefined" = some (.ref Ca) ∧ q = .exc Ca "what" "member"))
theorem ok_coordinates (W : Wd g) : FNX g "coordinates" 39 (PX (coF g)) := by
  refine FNX.mk W.t_coordinates c_coordinates (fun _ _ _ _ _ _ us hl => match us, hl with | [_, _], _ => rfl) (fun os M r h => ?_) (fun os M r h => ?_)
  · obtain ⟨ds, q, rfl, _, _, m, B, v, d, e, rfl, _⟩ := h
    rfl
  · obtain ⟨ds, q, rfl, rfl, rfl, m, B, v, d, e, rfl, hb, hm, hv, R, h⟩ := h
    obtain ⟨Ca, fI, x1, x2, x3, x4⟩ := W.x_Undefined.ex
    refine SX.cons (E1 := [.dat d, .dat e, .dat (tM m), .dat (tV v)]) (M1 := []) (ST.asg (EV.c2 (ok_checked_with W) (EV.nm 0) (EV.nm 1) ⟨m, v, hm, hv, R.hl.symm, rfl⟩) (EG.tup (EGs.cons (EG.nm 2 c_coordinates.nd) (EGs.cons (EG.nm 3 c_coordinates.nd) EGs.nil)))) ?_
    refine SX.guard (k := !zr B v) (M1 := []) (ET.not (ET.val (EV.c2 (ok_has W) (EV.nm 2) (EV.nm 3) ⟨m, B, v, hb, R, rfl, rfl, rfl⟩))) (fun z => ?_) (fun z => ?_)
    · rcases h with ⟨hz, rfl⟩ | ⟨hz, Cb, hC, rfl⟩
      · rw [hz] at z
        exact absurd z Bool.false_ne_true
      · rw [x1] at hC
        cases hC
        exact ⟨_, _, _, _, rfl, SX.raise x2 sup_Undefined x1 W.f_super (EA.cons EV.str EA.nil)⟩
    · rcases h with ⟨hz, rfl⟩ | ⟨hz, Cb, hC, rfl⟩
      · exact SX.of (SB.one (ST.ret (EV.c2 (ok_in_basis W) (EV.c1 (ok_basis2 W) (EV.nm 2) ⟨m, B, hb, rfl, rfl⟩) (EV.nm 3) ⟨B, wd m, v, R, rfl, rfl, rfl⟩)))
      · rw [hz] at z
        exact absurd z (by decide)
end
end
section
/-! ### what the law tells of an exception -/
section
variable {g : Pg}
theorem hsc (W : Wd g) : HSc g n_law_refusal (defScope s_law_refusal) "e" "told" := ⟨rfl, rfl, c_law_refusal.nd, rfl, rfl, by decide, by decide, by decide, by decide, rfl, rfl, rfl, W.b.isinstance, W.f_repr, W.b.tuple⟩
theorem repr_member : reprText ("member" : Str) = ("'member'" : Str) := by decide +kernel
theorem fr_refusal (W : Wd g) {Ca : Addr} (hC : g.mg "Undefined" = some (.ref Ca)) : FR g "_law_refusal" 1 Ca "what" "member" ["refused", "Undefined 'member'"] := by
  obtain ⟨Cb, fI, x1, x2, x3, x4, x5, x6, x7⟩ := W.x_Undefined.ex
  rw [x1] at hC
  cases hC
  refine FR.mk W.t_law_refusal c_law_refusal (fun _ _ _ _ _ _ us hl => match us, hl with | [_], _ => rfl) (fun Y a d oe hY K => ?_)
  have hs := hsc W
  have no : ∀ {y : Str} {p0 p1 p2 pos : Pos}, y ∈ (["InvalidMatrix", "InvalidVector", "InvalidNumber", "InvalidQuestion", "InvalidLine", "InvalidText", "Unfit", "TooMany", "NothingDone"] : List Str) → (defScope s_law_refusal).names.lookup y = some .globalImplicit → (y == ("__debug__" : Str)) = false → TestIs Y (.Call (.Name "isinstance" p0) [.Name "e" p1, .Name y p2] [] pos) (S0 a d) false := fun {y p0 p1 p2 pos} hy h1 h2 => by
    obtain ⟨Da, e1, e2⟩ := x4 y hy
    exact TestIs.cls hY hs K e1 e2 h1 h2
  refine ⟨_, sq_start (kk := 0) hY hs (sq_no (no (by simp) rfl (by decide)) (sq_no (no (by simp) rfl (by decide)) (sq_no (no (by simp) rfl (by decide)) (sq_no (no (by simp) rfl (by decide)) (sq_no (no (by simp) rfl (by decide)) (sq_yes (TestIs.cls hY hs K x1 x5) (sq_app (w := "member") hY hs K x2.nof (by rw [repr_member]; decide) (by rw [repr_member]; decide)) (sq_no (no (by simp) rfl (by decide)) (sq_no (TestIs.or3 (no (by simp) rfl (by decide)) (no (by simp) rfl (by decide)) (no (by simp) rfl (by decide))) (sq_no (TestIs.not (b := true) (TestIs.ve hY hs K W.f_ValueError x6)) (sq_end (d := d) (fld := "what") (w := "member") hY hs)))))))))), fun D H hd q => ?_⟩
  refine ⟨Nat.lt_succ_self 1, fun p hp => ?_⟩
  have ndp : d ≠ p := fun z => by
    rw [z, hp] at hd
    cases hd
  have s1 : SHot a d "what" "member" p ["refused"] ((L2.start n_law_refusal [V.ref a]).set 1 (some (.ref p))) (upd H p (.lst [.str "refused"])) := ⟨rfl, rfl, by rw [upd_ne ndp]; exact hd, upd_same⟩
  have s2 : SHot a d "what" "member" p ["refused", "Undefined 'member'"] ((L2.start n_law_refusal [V.ref a]).set 1 (some (.ref p))) (upd (upd H p (.lst [.str "refused"])) p (.lst ((([("refused" : Str)] : List Str) ++ [("Undefined " : Str) ++ reprText ("member" : Str)]).map .str))) := by
    refine ⟨rfl, rfl, by rw [upd_ne ndp, upd_ne ndp]; exact hd, ?_⟩
    rw [upd_same, repr_member]
    have e : ("Undefined " : Str) ++ ("'member'" : Str) = ("Undefined 'member'" : Str) := by decide +kernel
    rw [e]
    rfl
  refine ⟨s1.s, s1.s, s1.s, s1.s, s1.s, s1.s, p, ["refused"], s1, by decide, s2.s, s2.s, s2.s, p, _, s2, fun l hl => ?_⟩
  rw [repr_member] at hl ⊢
  rw [upd_upd] at hl ⊢
  have nl : l ≠ p := fun z => by
    rw [z, upd_same] at hl
    cases hl
  rw [upd_ne nl] at hl
  have e : ("Undefined " : Str) ++ ("'member'" : Str) = ("Undefined 'member'" : Str) := by decide +kernel
  rw [e]
  exact q p l hp hl nl
/-- coordinates, or what is told of the error -/
def tcF (d e r : D) : Prop := ∃ m B v, IsB m B ∧ IsM d m ∧ IsV e v ∧ RedOk B (wd m) v ∧ r = if zr B v = true then tV (co B v) else .tup [.str "refused", .str "Undefined 'member'"]
theorem ok_told_coordinates (W : Wd g) : FN g "_law_told_coordinates" 40 (P2 tcF) := by
  obtain ⟨Ca, fI, x1, x2, x3, x4, x5, x6, Cb, x7, x8⟩ := W.x_Undefined.ex
  refine FN.mkTry (g := g) (Cb := Cb) (i := 2) (n := "e") (h := "_law_refusal") (cx := "CoreError") W.t_law_told_coordinates (N := ["a", "v", "e"]) (ps := ["a", "v"]) ⟨rfl, rfl, rfl, by decide +kernel, rfl, by decide +kernel, by decide +kernel⟩ (fun _ _ _ _ _ _ us hl => match us, hl with | [_, _], _ => rfl) (fun os M o M' h => ?_) rfl x7 rfl (fun os M o M' h => ?_)
  · obtain ⟨d, e, r, rfl, _⟩ := h
    rfl
  · obtain ⟨d, e, r, rfl, rfl, rfl, rfl, m, B, v, hb, hm, hv, R, rfl⟩ := h
    cases hz : zr B v with
    | true => exact ⟨_, SX.ret (ds := [d, e]) (r := .val (tV (co B v))) (ok_coordinates W) (EA.cons (EV.nm 0) (EA.cons (EV.nm 1) EA.nil)) ⟨m, B, v, d, e, rfl, hb, hm, hv, R, .inl ⟨hz, rfl⟩⟩, .inl rfl⟩
    | false => exact ⟨_, SX.ret (ds := [d, e]) (r := .exc Ca "what" "member") (ok_coordinates W) (EA.cons (EV.nm 0) (EA.cons (EV.nm 1) EA.nil)) ⟨m, B, v, d, e, rfl, hb, hm, hv, R, .inr ⟨hz, Ca, x1, rfl⟩⟩, .inr ⟨Ca, "what", "member", ["refused", "Undefined 'member'"], rfl, rfl, (by obtain ⟨f, fd, e0, a1, a2, a3, a4⟩ := fr_refusal W x1; exact ⟨f, fd, e0, a1, a2, a3, fun A outer s H Q p d hr => a4 A outer s H Q p d (hr.mono (by decide))⟩), x3, x8⟩⟩
end
end
section
/-! ### the state, what is drawn from it -/
section
theorem Vs.eraseIdx {I : Hp} {adr : List Addr} : ∀ {os : List O} {vs : List V} (h : Vs I adr os vs) (i : Nat), Vs I adr (os.eraseIdx i) (vs.eraseIdx i)
  | _, _, .nil, _ => .nil
  | _, _, .cons _ r, 0 => r
  | _, _, .cons h r, i + 1 => .cons h (Vs.eraseIdx r i)
theorem seqIndex_nat {i n : Nat} (h : i < n) : seqIndex? (i : Int) n = some i := by
  unfold seqIndex?
  have h1 : ¬ ((i : Int) < 0) := by omega
  simp only [if_neg h1]
  rw [if_pos (by simp; omega)]
  simp
end
section
variable {C : Cc} {E : List O} {M M1 M2 : Mem} {a b : Expr} {pos apos : Pos}
theorem EV.popAt {n i : Nat} {o : O} {ps : List O} (ho : EV C a E M (.adr n) M1) (hi : EV C b E M1 (.dat (.int (i : Int))) M2) (hm1 : ∃ ps1, M1[n]? = some (some ps1)) (hm : M2[n]? = some (some ps)) (hl : ps[i]? = some o) (hz : i < 1000)
    (hbase : ∀ env, attributeBase a "pop" env (eval a env) = eval a env := by intro _; rfl)
    (hfew : ∀ env, ((backTo pos (starEach [b] env)).all (fun x => !x.1) && (backToKw pos (keywordEach [] env)).all (fun x => x.1.isSome) && decide ([b].length + ([] : List Keyword).length + (if ([] : List Keyword).isEmpty then 0 else 1) < 30)) = true := by intro _; rfl)
    (hline : (apos.endLine == pos.line) = true := by rfl) (hs : ∀ env, starEach [b] env = (false, eval b env) :: starEach [] env := by intro _; rfl) : EV C (.Call (.Attribute a "pop" apos) [b] [] pos) E M o (M2.set n (some (ps.eraseIdx i))) :=
  EV.mk (t := tBM C.g.K "list" rPopAt (UE C a) (tCons (UE C b) tNil)) (fun X hX => by
    have := pe_bm (apos := apos) (cpos := pos) PySem.F.plainAttrs_list PySem.F.slot_list_pop PySem.F.type_list_pop mt_popAt (ue hX a) (pa_cons (ue hX b) pa_nil (hs X.env)) (hbase X.env) (hfew X.env) hline (hs X.env) rfl
    rw [hX.K] at this
    exact this) fun I H adr σ Q s q => ho I H adr σ _ s fun v I1 H1 adr1 s1 g1 v1 => by
      obtain ⟨p, hp, rfl⟩ := v1
      obtain ⟨ps1, hm1⟩ := hm1
      obtain ⟨_, xs1, hx1, _⟩ := s1.sto.cell n p ps1 hp hm1
      refine ⟨.inl ⟨rfl, xs1, sql_uniq hx1⟩, hi I1 H1 adr1 σ _ s1 fun w I2 H2 adr2 s2 g2 w2 => ?_⟩
      cases (show Rep I2 (.int (i : Int)) w from w2)
      obtain ⟨_, xs, hx, hr⟩ := s2.sto.cell n p ps (g2.get hp) hm
      obtain ⟨y, hy, vy⟩ := hr.get hl
      have hlt : i < xs.length := (List.getElem?_eq_some_iff.mp hy).1
      obtain ⟨s3, g3⟩ := s2.wri (g2.get hp) hm (Vs.eraseIdx hr i)
      exact ⟨p, xs, (i : Int), i, y, rfl, rfl, hx, by omega, by omega, seqIndex_nat hlt, hy, q _ I2 _ adr2 s3 ((g1.trans g2).trans g3) (Vo.mono g3 vy)⟩
end
section
variable {g : Pg}
structure SS where
  c : List Int
  a : Int
  b : Int
  n : Int
def MS (S : SS) : Mem := [rowC S.c, some [.adr 0, .dat (.int S.a), .dat (.int S.b), .dat (.int S.n)]]
def PP : Int := 2305843009213693951
structure Gd (S : SS) : Prop where
  a0 : 0 ≤ S.a
  b0 : 0 ≤ S.b
  b1 : S.b < PP
def dr1 (S : SS) : SS := if S.a = 0 ∧ S.c ≠ [] then ⟨S.c.tail, if 10 ^ 18 ≤ S.c.headD 0 then S.c.headD 0 else S.a, (S.b + S.c.headD 0 * 48271 + 1) % PP, S.n⟩ else S
def two (S : SS) : Int := ((S.b * S.b + (S.n + 1) * 40503 + 11) % PP * ((S.b * S.b + (S.n + 1) * 40503 + 11) % PP) + (S.n + 1) + 1000003) % PP
def drV (S : SS) (m : Int) : Int := if 0 < (dr1 S).a then (dr1 S).a % m else two (dr1 S) / 4096 % m
def drS (S : SS) (m : Int) : SS := if 0 < (dr1 S).a then ⟨(dr1 S).c, (dr1 S).a / m, (dr1 S).b, (dr1 S).n⟩ else ⟨(dr1 S).c, (dr1 S).a, two (dr1 S), (dr1 S).n + 1⟩
theorem mod_PP (x : Int) : 0 ≤ x % PP ∧ x % PP < PP := ⟨Int.emod_nonneg _ (by decide), Int.emod_lt_of_pos _ (by decide)⟩
theorem Gd.d1 {S : SS} (h : Gd S) : Gd (dr1 S) := by
  unfold dr1
  split
  · refine ⟨?_, (mod_PP _).1, (mod_PP _).2⟩
    show 0 ≤ (if _ then _ else _ : Int)
    split
    · omega
    · exact h.a0
  · exact h
theorem Gd.dr {S : SS} (h : Gd S) {m : Int} (hm : 0 < m) : Gd (drS S m) := by
  have h1 := h.d1
  unfold drS
  split
  · exact ⟨Int.ediv_nonneg h1.a0 (by omega), h1.b0, h1.b1⟩
  · exact ⟨h1.a0, (mod_PP _).1, (mod_PP _).2⟩
theorem drV_in (S : SS) {m : Int} (hm : 0 < m) : 0 ≤ drV S m ∧ drV S m < m := by
  unfold drV
  split <;> exact ⟨Int.emod_nonneg _ (by omega), Int.emod_lt_of_pos _ hm⟩
theorem lowS {n : Nat} {S : SS} {L : Mem} (h0 : 0 < n) (h : LowM n L) : LowM n (MS S ++ L) := fun k os q o ho => by
  match k, q with
  | 0, q => exact (LowM.dat (ds := S.c.map D.int) (M := []) LowM.nil) 0 os q o ho
  | 1, q =>
    have e : [O.adr 0, .dat (.int S.a), .dat (.int S.b), .dat (.int S.n)] = os := Option.some.inj (Option.some.inj q)
    subst e
    rcases List.mem_cons.mp ho with rfl | ho
    · exact h0
    · rcases List.mem_cons.mp ho with rfl | ho
      · exact True.intro
      · rcases List.mem_cons.mp ho with rfl | ho
        · exact True.intro
        · obtain rfl := List.mem_singleton.mp ho
          exact True.intro
  | k + 2, q => exact h k os q o ho
def drawR : Rel := fun os M o M' => ∃ (S : SS) (m : Int), Gd S ∧ 0 < m ∧ m.natAbs.log2 < 9000 ∧ os = [.adr 1, .dat (.int m)] ∧ M = MS S ∧ o = .dat (.int (drV S m)) ∧ M' = MS (drS S m)
theorem st_at {S : SS} {i : Nat} {L : Mem} {o : O} (h : [O.adr 0, .dat (.int S.a), .dat (.int S.b), .dat (.int S.n)][i]? = some o) : (MS S ++ L)[1]? = some (some [.adr 0, .dat (.int S.a), .dat (.int S.b), .dat (.int S.n)]) ∧ atI [O.adr 0, .dat (.int S.a), .dat (.int S.b), .dat (.int S.n)] (i : Int) = some o := ⟨rfl, atI_nat h⟩
theorem ok_law_draw (W : Wd g) : FN g "_law_draw" 1 drawR := by
  refine FN.mkJ W.t_law_draw c_law_draw (fun _ _ _ _ _ _ us hl => match us, hl with | [_, _], _ => rfl) (fun os M o M' h => by obtain ⟨S, m, _, _, _, rfl, _⟩ := h; rfl) (fun os M o M' h => ?_)
  obtain ⟨S, m, hg, hm, hm2, rfl, rfl, rfl, rfl⟩ := h
  refine ⟨Nat.le_refl _, True.intro, lowS (L := []) (Nat.succ_pos 1) LowM.nil, [], ?_⟩
  rw [List.append_nil]
  let C := mkC g n_law_draw s_law_draw 0
  let E : O → O → O → O → List O := fun ce d o1 o2 => [.adr 1, .dat (.int m), .adr 0, ce, d, o1, o2]
  have at0 : ∀ {S : SS} {ce d o1 o2 : O} {p p1 p2 : Pos} {j : Nat}, EV C (.Subscript (.Name "state" p) (.Constant (.int 0) j p1) p2) (E ce d o1 o2) (MS S) (.adr 0) (MS S) := EV.ixC (n := 1) (EV.nm 0) EV.int rfl (atI_nat (j := 0) rfl)
  have at1 : ∀ {S : SS} {ce d o1 o2 : O} {p p1 p2 : Pos} {j : Nat}, EV C (.Subscript (.Name "state" p) (.Constant (.int 1) j p1) p2) (E ce d o1 o2) (MS S) (.dat (.int S.a)) (MS S) := EV.ixC (n := 1) (EV.nm 0) EV.int rfl (atI_nat (j := 1) rfl)
  have at2 : ∀ {S : SS} {ce d o1 o2 : O} {p p1 p2 : Pos} {j : Nat}, EV C (.Subscript (.Name "state" p) (.Constant (.int 2) j p1) p2) (E ce d o1 o2) (MS S) (.dat (.int S.b)) (MS S) := EV.ixC (n := 1) (EV.nm 0) EV.int rfl (atI_nat (j := 2) rfl)
  have at3 : ∀ {S : SS} {ce d o1 o2 : O} {p p1 p2 : Pos} {j : Nat}, EV C (.Subscript (.Name "state" p) (.Constant (.int 3) j p1) p2) (E ce d o1 o2) (MS S) (.dat (.int S.n)) (MS S) := EV.ixC (n := 1) (EV.nm 0) EV.int rfl (atI_nat (j := 3) rfl)
  have pt1 : ∀ {T : SS} {v : O} {ce d o1 o2 : O} {p p1 p2 : Pos} {j : Nat}, EG C (.Subscript (.Name "state" p) (.Constant (.int 1) j p1) p2) v (E ce d o1 o2) (MS T) (E ce d o1 o2) ((MS T).set 1 (some (([O.adr 0, .dat (.int T.a), .dat (.int T.b), .dat (.int T.n)] : List O).set 1 v))) := fun {T v ce d o1 o2 p p1 p2 j} => EG.sub (n := 1) (jj := 1) (ps := [O.adr 0, .dat (.int T.a), .dat (.int T.b), .dat (.int T.n)]) (EV.nm 0) EV.int rfl (ixN_of (n := 4) (k := 1) (by decide))
  have pt2 : ∀ {T : SS} {v : O} {ce d o1 o2 : O} {p p1 p2 : Pos} {j : Nat}, EG C (.Subscript (.Name "state" p) (.Constant (.int 2) j p1) p2) v (E ce d o1 o2) (MS T) (E ce d o1 o2) ((MS T).set 1 (some (([O.adr 0, .dat (.int T.a), .dat (.int T.b), .dat (.int T.n)] : List O).set 2 v))) := fun {T v ce d o1 o2 p p1 p2 j} => EG.sub (n := 1) (jj := 2) (ps := [O.adr 0, .dat (.int T.a), .dat (.int T.b), .dat (.int T.n)]) (EV.nm 0) EV.int rfl (ixN_of (n := 4) (k := 2) (by decide))
  have pt3 : ∀ {T : SS} {v : O} {ce d o1 o2 : O} {p p1 p2 : Pos} {j : Nat}, EG C (.Subscript (.Name "state" p) (.Constant (.int 3) j p1) p2) v (E ce d o1 o2) (MS T) (E ce d o1 o2) ((MS T).set 1 (some (([O.adr 0, .dat (.int T.a), .dat (.int T.b), .dat (.int T.n)] : List O).set 3 v))) := fun {T v ce d o1 o2 p p1 p2 j} => EG.sub (n := 1) (jj := 3) (ps := [O.adr 0, .dat (.int T.a), .dat (.int T.b), .dat (.int T.n)]) (EV.nm 0) EV.int rfl (ixN_of (n := 4) (k := 3) (by decide))
  -- behind the first if
  have fin : ∀ (T : SS) (ce : O), Gd T → SB C ((defBody s_law_draw).drop 2) (E ce .no .no .no) (MS T) (.rt (.dat (.int (if 0 < T.a then T.a % m else two T / 4096 % m))) (MS (if 0 < T.a then ⟨T.c, T.a / m, T.b, T.n⟩ else ⟨T.c, T.a, two T, T.n + 1⟩))) := fun T ce hT => by
    by_cases ha : 0 < T.a
    · rw [if_pos ha, if_pos ha]
      refine SB.stop (ST.yes (ET.to (ET.cm at1 EV.int CS.gtI) (decide_eq_true ha)) (SB.cons (E1 := E ce (.dat (.int (T.a % m))) .no .no) (M1 := MS T) (ST.set 4 (EV.mod (EV.intI at1 W.b.int) (EV.nm 1) hm) c_law_draw.nd) (SB.cons (E1 := E ce (.dat (.int (T.a % m))) .no .no) (M1 := MS ⟨T.c, T.a / m, T.b, T.n⟩) (ST.asg (EV.div (EV.intI at1 W.b.int) (EV.nm 1) ⟨hm, hm2⟩) (pt1)) (SB.one (ST.ret (EV.nm 4))))))
    · rw [if_neg ha, if_neg ha]
      have hb : IntMulOk T.b T.b := mul_okL (by have := hT.b0; have := hT.b1; unfold PP at this; omega)
      have h1 := mod_PP (T.b * T.b + (T.n + 1) * 40503 + 11)
      have h2 : ∀ x : Int, 0 ≤ x ∧ x < PP → IntMulOk x x := fun x hx => mul_okL (by unfold PP at hx; omega)
      refine SB.cons (E1 := E ce .no .no .no) (M1 := MS T) (ST.no (ET.to (ET.cm at1 EV.int CS.gtI) (decide_eq_false ha)) SB.nil) (SB.cons (E1 := E ce .no .no .no) (M1 := MS ⟨T.c, T.a, T.b, T.n + 1⟩) (ST.asg (EV.add at3 EV.int) (pt3)) ?_)
      refine SB.cons (E1 := E ce .no (.dat (.int ((T.b * T.b + (T.n + 1) * 40503 + 11) % PP))) .no) (M1 := MS ⟨T.c, T.a, T.b, T.n + 1⟩) (ST.set 5 (EV.mod (EV.intI (EV.add (EV.add (EV.mul at2 at2 hb) (EV.mulR at3 EV.int (by decide))) EV.int) W.b.int) EV.int (by decide)) c_law_draw.nd) ?_
      refine SB.cons (E1 := E ce .no (.dat (.int ((T.b * T.b + (T.n + 1) * 40503 + 11) % PP))) (.dat (.int (two T)))) (M1 := MS ⟨T.c, T.a, T.b, T.n + 1⟩) (ST.set 6 (EV.mod (EV.intI (EV.add (EV.add (EV.mul (EV.nm 5) (EV.nm 5) (h2 _ h1)) at3) EV.int) W.b.int) EV.int (by decide)) c_law_draw.nd) ?_
      exact SB.cons (E1 := E ce .no (.dat (.int ((T.b * T.b + (T.n + 1) * 40503 + 11) % PP))) (.dat (.int (two T)))) (M1 := MS ⟨T.c, T.a, two T, T.n + 1⟩) (ST.asg (EV.nm 6) (pt2)) (SB.one (ST.ret (EV.mod (EV.intI (EV.div (EV.nm 6) EV.int ⟨by decide, by decide⟩) W.b.int) (EV.nm 1) hm)))
  have hf : ∀ (ce : O), SB C ((defBody s_law_draw).drop 2) (E ce .no .no .no) (MS (dr1 S)) (.rt (.dat (.int (drV S m))) (MS (drS S m))) := fun ce => fin (dr1 S) ce hg.d1
  refine SB.cons (E1 := E .no .no .no .no) (M1 := MS S) (ST.set 2 (EV.ixC (n := 1) (EV.nm 0) EV.int rfl (atI_nat (j := 0) rfl)) c_law_draw.nd) ?_
  by_cases h0 : S.a = 0 ∧ S.c ≠ []
  · obtain ⟨x, t, hx⟩ : ∃ x t, S.c = x :: t := by
      cases hc : S.c with
      | nil => exact absurd hc h0.2
      | cons x t => exact ⟨x, t, rfl⟩
    have e1 : dr1 S = ⟨t, if 10 ^ 18 ≤ x then x else S.a, (S.b + x * 48271 + 1) % PP, S.n⟩ := by
      unfold dr1
      rw [if_pos h0, hx]
      rfl
    have hl : ((S.c.map D.int).map O.dat).length = t.length + 1 := by rw [row_len, hx]; rfl
    have hfx := hf (.dat (.int x))
    rw [e1] at hfx
    refine SB.cons (E1 := E (.dat (.int x)) .no .no .no) (M1 := MS ⟨t, if 10 ^ 18 ≤ x then x else S.a, (S.b + x * 48271 + 1) % PP, S.n⟩) (ST.yes (ET.to (EW.et (EW.and (k1 := true) (k2 := true) (ET.to (ET.cm at1 EV.int CS.eqI) (decide_eq_true h0.1)) (fun _ => EW.and1 (ET.to (ET.cm (EV.lenC (nn := 0) (EV.nm 2) rfl W.b.len) EV.int CS.gtI) (decide_eq_true (by rw [hl]; omega)))) (fun z => nomatch z))) rfl) ?_) hfx
    refine SB.cons (E1 := E (.dat (.int x)) .no .no .no) (M1 := MS ⟨t, S.a, S.b, S.n⟩) (ST.to (ST.set 3 (EV.intI (EV.popAt (n := 0) (i := 0) (ps := (S.c.map D.int).map O.dat) (EV.nm 2) EV.int ⟨_, rfl⟩ rfl (by rw [hx]; rfl) (by decide)) W.b.int) c_law_draw.nd) ?_) ?_
    · show Out.nx _ [some (((S.c.map D.int).map O.dat).eraseIdx 0), _] = _
      rw [hx]
      rfl
    · have up : ∀ (A : Int), ST C ((thenOf ((defBody s_law_draw).getD 1 (.Pass ⟨0, 0, 0, 0⟩))).getD 2 (.Pass ⟨0, 0, 0, 0⟩)) (E (.dat (.int x)) .no .no .no) (MS ⟨t, A, S.b, S.n⟩) (.nx (E (.dat (.int x)) .no .no .no) (MS ⟨t, A, (S.b + x * 48271 + 1) % PP, S.n⟩)) := fun A => ST.asg (EV.mod (EV.intI (EV.add (EV.add at2 (EV.mulR (EV.nm 3) EV.int (by decide))) EV.int) W.b.int) EV.int (by decide)) (pt2)
      by_cases hb : 10 ^ 18 ≤ x
      · rw [if_pos hb]
        exact SB.cons (E1 := E (.dat (.int x)) .no .no .no) (M1 := MS ⟨t, x, S.b, S.n⟩) (ST.yes (ET.to (ET.cm (EV.nm 3) (EV.pow EV.int EV.int ⟨by decide, by decide, by decide⟩) CS.geI) (decide_eq_true hb)) (SB.one (ST.asg (EV.nm 3) (pt1)))) (SB.one (up x))
      · rw [if_neg hb]
        exact SB.cons (E1 := E (.dat (.int x)) .no .no .no) (M1 := MS ⟨t, S.a, S.b, S.n⟩) (ST.no (ET.to (ET.cm (EV.nm 3) (EV.pow EV.int EV.int ⟨by decide, by decide, by decide⟩) CS.geI) (decide_eq_false hb)) SB.nil) (SB.one (up S.a))
  · have e1 : dr1 S = S := if_neg h0
    have hfx := hf .no
    rw [e1] at hfx
    refine SB.cons (E1 := E .no .no .no .no) (M1 := MS S) (ST.no ?_ SB.nil) hfx
    by_cases ha : S.a = 0
    · have hc : S.c = [] := Classical.byContradiction fun z => h0 ⟨ha, z⟩
      exact ET.to (EW.et (EW.and (k1 := true) (k2 := false) (ET.to (ET.cm at1 EV.int CS.eqI) (decide_eq_true ha)) (fun _ => EW.and1 (ET.to (ET.cm (EV.lenC (nn := 0) (EV.nm 2) rfl W.b.len) EV.int CS.gtI) (by rw [row_len, hc]; rfl))) (fun z => nomatch z))) rfl
    · exact ET.to (EW.et (EW.and (k1 := false) (k2 := false) (ET.to (ET.cm at1 EV.int CS.eqI) (decide_eq_false ha)) (fun z => nomatch z) (fun _ => rfl))) rfl
end
end
section
/-! ### calls that draw -/
section
theorem mixS {S S' : SS} {L : Mem} : Mix [0, 1] (MS S ++ L) (MS S) (MS S') (MS S' ++ L) := by
  refine ⟨rfl, by decide, by simp [MS], fun i k h => ?_, fun k os h => ?_⟩
  · match i, h with
    | 0, h => cases h; exact congrArg (fun q => some (some q)) (ren_dat _).symm
    | 1, h => cases h; rfl
    | n + 2, h => simp at h
  · match k, h with
    | 0, h => cases h; exact .inr ⟨0, _, rfl, .inl (by decide), rfl, (ren_dat _).symm⟩
    | 1, h => cases h; exact .inr ⟨1, _, rfl, .inl (by decide), rfl, rfl⟩
    | n + 2, h => exact .inl ⟨by simp, h⟩
theorem ren_args {n : Nat} (ds : List D) : O.adr 1 :: ds.map O.dat = ((O.adr 1 :: ds.map O.dat).map (·.ren (rho [0, 1] n))) := by
  rw [List.map_cons, ren_dat]
  rfl
/-- a call with the state first, data besides, data out -/
theorem EV.callS {C : Cc} {E : List O} {M L : Mem} {S S' : SS} {e : Expr} {es : List Expr} {p pos : Pos} {x : Str} {d : D} {R : Rel} {kf : Nat} {ds : List D} (F : FN C.g x kf R) (ha : EA C (e :: es) E M (.adr 1 :: ds.map .dat) (MS S ++ L)) (hR : R (.adr 1 :: ds.map .dat) (MS S) (.dat d) (MS S')) (hk : Nat.ble kf C.k = true := by rfl)
    (hg : C.sc.names.lookup x = some .globalImplicit := by rfl) (hdb : (x == ("__debug__" : Str)) = false := by decide) (he : ∀ env, starEach (e :: es) env = (false, eval e env) :: starEach es env := by intro _; rfl) (hpl : ∀ env, (backTo pos (starEach es env)).any (·.1) = false := by intro _; rfl) :
    EV C (.Call (.Name x p) (e :: es) [] pos) E M (.dat d) (MS S' ++ L) := EV.callG (ι := [0, 1]) F ha hR (ren_args ds) mixS hk hg hdb he hpl
theorem EV.draw {C : Cc} {E : List O} {M L : Mem} {S : SS} {m : Int} {a b : Expr} {p pos : Pos} (W : Wd C.g) (hG : Gd S) (hm : 0 < m) (hm2 : m < 2 ^ 60) (ha : EV C a E M (.adr 1) (MS S ++ L)) (hb : EV C b E (MS S ++ L) (.dat (.int m)) (MS S ++ L)) (hk : Nat.ble 1 C.k = true := by rfl)
    (hg : C.sc.names.lookup ("_law_draw" : Str) = some .globalImplicit := by rfl) (he : ∀ env, starEach [a, b] env = (false, eval a env) :: starEach [b] env := by intro _; rfl) (he2 : ∀ env, starEach [b] env = (false, eval b env) :: starEach [] env := by intro _; rfl) (hpl : ∀ env, (backTo pos (starEach [b] env)).any (·.1) = false := by intro _; rfl) :
    EV C (.Call (.Name "_law_draw" p) [a, b] [] pos) E M (.dat (.int (drV S m))) (MS (drS S m) ++ L) :=
  EV.callS (ds := [.int m]) (ok_law_draw W) (EA.cons ha (EA.cons hb EA.nil he2) he) ⟨S, m, hG, hm, Nat.lt_of_le_of_lt (Nat.log2_lt (by omega) |>.mpr (by omega : m.natAbs < 2 ^ 60) |> Nat.le_of_lt) (by decide), rfl, rfl, rfl, rfl⟩ hk hg (by decide) he hpl
theorem EV.draw0 {C : Cc} {E : List O} {M : Mem} {S : SS} {m : Int} {a b : Expr} {p pos : Pos} (W : Wd C.g) (hG : Gd S) (hm : 0 < m) (hm2 : m < 2 ^ 60) (ha : EV C a E M (.adr 1) (MS S)) (hb : EV C b E (MS S) (.dat (.int m)) (MS S)) (hk : Nat.ble 1 C.k = true := by rfl)
    (hg : C.sc.names.lookup ("_law_draw" : Str) = some .globalImplicit := by rfl) (he : ∀ env, starEach [a, b] env = (false, eval a env) :: starEach [b] env := by intro _; rfl) (he2 : ∀ env, starEach [b] env = (false, eval b env) :: starEach [] env := by intro _; rfl) (hpl : ∀ env, (backTo pos (starEach [b] env)).any (·.1) = false := by intro _; rfl) :
    EV C (.Call (.Name "_law_draw" p) [a, b] [] pos) E M (.dat (.int (drV S m))) (MS (drS S m)) := EV.draw (L := []) W hG hm hm2 ha hb hk hg he he2 hpl
end
section
variable {g : Pg}
def spanR : Rel := fun os M o M' => ∃ (S : SS) (l h : Int), Gd S ∧ l ≤ h ∧ h - l < 2 ^ 50 ∧ os = [.adr 1, .dat (.int l), .dat (.int h)] ∧ M = MS S ∧ o = .dat (.int (l + drV S (h - l + 1))) ∧ M' = MS (drS S (h - l + 1))
theorem ok_law_span (W : Wd g) : FN g "_law_span" 2 spanR := by
  refine FN.mk W.t_law_span c_law_span (fun _ _ _ _ _ _ us hl => match us, hl with | [_, _, _], _ => rfl) (fun os M o M' h => by obtain ⟨S, l, h, _, _, _, rfl, _⟩ := h; rfl) (fun os M o M' h => ?_)
  obtain ⟨S, l, h, hG, h1, h2, rfl, rfl, rfl, rfl⟩ := h
  exact SB.one (ST.ret (EV.add (EV.nm 1) (EV.draw0 W hG (by omega) (by omega) (EV.nm 0) (EV.add (EV.sub (EV.nm 2) (EV.nm 1)) EV.int))))
theorem EV.span {C : Cc} {E : List O} {M L : Mem} {S : SS} {l h : Int} {a b c : Expr} {p pos : Pos} (W : Wd C.g) (hG : Gd S) (hm : l ≤ h) (hm2 : h - l < 2 ^ 50) (ha : EV C a E M (.adr 1) (MS S ++ L)) (hb : EV C b E (MS S ++ L) (.dat (.int l)) (MS S ++ L)) (hc : EV C c E (MS S ++ L) (.dat (.int h)) (MS S ++ L)) (hk : Nat.ble 2 C.k = true := by rfl)
    (hg : C.sc.names.lookup ("_law_span" : Str) = some .globalImplicit := by rfl) (he : ∀ env, starEach [a, b, c] env = (false, eval a env) :: starEach [b, c] env := by intro _; rfl) (he2 : ∀ env, starEach [b, c] env = (false, eval b env) :: starEach [c] env := by intro _; rfl) (he3 : ∀ env, starEach [c] env = (false, eval c env) :: starEach [] env := by intro _; rfl) (hpl : ∀ env, (backTo pos (starEach [b, c] env)).any (·.1) = false := by intro _; rfl) :
    EV C (.Call (.Name "_law_span" p) [a, b, c] [] pos) E M (.dat (.int (l + drV S (h - l + 1)))) (MS (drS S (h - l + 1)) ++ L) :=
  EV.callS (ds := [.int l, .int h]) (ok_law_span W) (EA.cons ha (EA.cons hb (EA.cons hc EA.nil he3) he2) he) ⟨S, l, h, hG, hm, hm2, rfl, rfl, rfl, rfl⟩ hk hg (by decide) he hpl
theorem ok_law_frozen (W : Wd g) : FN g "_law_frozen" 1 (P1 fun d r => ∃ m, Sq d m ∧ m.length < 100000 ∧ r = tM m) := by
  refine FN.mk1 W.t_law_frozen c_law_frozen (fun _ _ _ _ _ _ us hl => match us, hl with | [_], _ => rfl) (fun d r h => ?_)
  obtain ⟨m, ⟨ds, hs, hp⟩, hz, rfl⟩ := h
  have hmem := paired_mem hp
  have e : tM m = .tup (ds.map tupD) := congrArg D.tup (paired_tup hp).symm
  rw [e]
  exact SB.one (ST.ret (EV.tuple (LC.ev (LC.lM 1 (xs := ds) (f := fun e => e) (g := tupD) (own := [("row", 1)]) (by rfl) c_law_frozen.nd rfl (EV.nm 0) (by rw [hs, List.map_id']) (Nat.le_refl _) OkM.refl (by rw [Paired.length hp]; exact hz) (fun y hy M => by
    obtain ⟨q, _, hq⟩ := hmem y hy
    have : tupD y = .tup (q.map D.int) := by unfold tupD; rw [hq]; rfl
    rw [this]
    exact EV.tuple (EV.nm 1) hq W.b.tuple))) rfl W.b.tuple))
end
end
section
/-! ### the law's plain words -/
section
variable {g : Pg}
theorem lV_map {α : Type} {f : α → Int} {xs : List α} : D.lst (xs.map fun x => D.int (f x)) = lV (xs.map f) := by
  show _ = D.lst ((xs.map f).map D.int)
  rw [List.map_map]
  rfl
theorem sq_lists {C : Cc} {E : List O} {M : Mem} {d : D} {m : List (List Int)} {iter : Expr} {jx : Nat} {own : List (Str × Nat)} {sc : Scope} {x : Str} {p p1 p2 p3 pos : Pos} (W : Wd C.g) (h : Sq d m) (hz : m.length < 100000) (ok : blkC C.N C.sc sc own = true) (nd : C.N.Nodup) (ho : own.map (·.2) = [jx]) (hi : EV C iter E M (.dat d) M)
    (hN : C.N[jx]? = some x := by rfl) (hx : Loc (C.blk sc).sc x := by first | exact Or.inl rfl | exact Or.inr rfl) (hf' : (C.blk sc).fn x = true ∨ (C.blk sc).sc.names.lookup x = some .local := by first | exact .inl rfl | exact .inr rfl)
    (hf : ∀ env x, foldedSetIterable iter env x = pure x := by intro _ _; rfl) (hgl : (C.blk sc).sc.names.lookup ("list" : Str) = some .globalImplicit := by rfl) (hE : ∀ y, ((wipeE E [jx]).set jx (.dat y))[jx]? = some (.dat y) := by intro _; rfl)
    (hd : (x == ("__debug__" : Str)) = false := by decide) (hcd : (x == ("__classdict__" : Str)) = false := by decide) (hv : Vis (C.blk sc).sc x := by first | exact Or.inl rfl | exact Or.inr (Or.inl rfl) | exact Or.inr (Or.inr rfl)) : EV C (.ListComp (.Call (.Name "list" p1) [.Name x p2] [] p3) [⟨.Name x p, iter, [], 0⟩] sc pos) E M (.dat (lM m)) M := by
  obtain ⟨ds, hs, hp⟩ := h
  have hmem := paired_mem hp
  have hlen := Paired.length hp
  have key := LC.ev (pos := pos) (LC.lM jx (C := C) (E := E) (M := M) (x := x) (p := p) (iter := iter) (elt := .Call (.Name "list" p1) [.Name x p2] [] p3) (scope := sc) (own := own) (xs := ds) (f := fun e => e) (g := fun e => .lst ((seqD e).getD [])) ok nd ho hi (by rw [hs, List.map_id']) (Nat.le_refl _) OkM.refl (by omega) (fun y hy M => by
    obtain ⟨q, _, hq⟩ := hmem y hy
    rw [hq]
    exact EV.list (EV.nm jx hN (hE y) (by intro z; cases z) hv hd hcd) hq W.b.list rfl hgl) hN hx hf' hf)
  have e : ds.map (fun e => D.lst ((seqD e).getD [])) = m.map lV := by
    refine List.ext_getElem (by rw [List.length_map, List.length_map]; omega) fun i h1 h2 => ?_
    rw [List.getElem_map, List.getElem_map]
    rw [List.length_map] at h2
    obtain ⟨a, ha, hq⟩ := paired_at hp (List.getElem?_eq_getElem h2)
    rw [List.getElem?_eq_getElem (by omega)] at ha
    cases ha
    rw [hq]
    rfl
  rw [e] at key
  exact key
theorem ok_law_kept (W : Wd g) : FN g "_law_kept" 1 (P2 fun d e r => ∃ m, Sq d m ∧ Sq e m ∧ m.length < 100000 ∧ r = .bl true) := by
  refine FN.mk2 W.t_law_kept c_law_kept (fun _ _ _ _ _ _ us hl => match us, hl with | [_, _], _ => rfl) (fun d e r h => ?_)
  obtain ⟨m, h1, h2, hz, rfl⟩ := h
  exact SB.one (ST.ret (EV.to (EV.cm (sq_lists (jx := 2) (own := [("row", 2)]) W h1 hz (by rfl) c_law_kept.nd rfl (EV.nm 0)) (sq_lists (jx := 2) (own := [("row", 2)]) W h2 hz (by rfl) c_law_kept.nd rfl (EV.nm 1)) CS.eqN) (by rw [decide_eq_true rfl])))
theorem ok_law_first (W : Wd g) : FN g "_law_first" 1 (P1 fun d r => ∃ v, seqD d = some (v.map D.int) ∧ v.length < 100000 ∧ r = .int (headF v : Int)) := by
  refine FN.mk1 W.t_law_first c_law_first (fun _ _ _ _ _ _ us hl => match us, hl with | [_], _ => rfl) (fun d r h => ?_)
  obtain ⟨v, hd, hz, rfl⟩ := h
  have hrng : ∀ i, EG (mkC g n_law_first s_law_first 0) (tgOf ((defBody s_law_first).getD 0 (.Pass ⟨0, 0, 0, 0⟩))) (atI0 0 i) [.dat d, .no] [] [.dat d, .dat (.int (i : Int))] [] := fun i => by
    rw [atI0_eq]
    exact EG.nm 1 c_law_first.nd
  have e2 : ∀ i, Fg [.dat d, .dat (.int (i : Int))] [.dat d, .no] := fun i => Fg.cons (Fg.no Fg.nil)
  unfold headF
  cases hf : leadF v with
  | none =>
    have hz0 := leadF_none hf
    exact SB.cons (ST.for (m := v.length) (n := v.length) (E_ := fun _ => [.dat d, .no]) (M_ := fun _ => []) (EI.rng1 (EV.len (EV.nm 0) (sqV_len hd) W.b.len) W.b.range (by omega)) Fg.refl rfl (Nat.le_refl _) (fun _ _ => True.intro) (fun i hi => ⟨_, _, _, hrng i, e2 i, .inl (SB.one (ST.no (ET.to (ET.cm (EV.ix (EV.nm 0) (EV.nm 1) (sqV_at hd hi)) EV.int CS.neI) (by rw [hz0 i]; rfl)) SB.nil))⟩) (.inl ⟨rfl, rfl⟩)) (SB.one (ST.ret (EV.len (EV.nm 0) (sqV_len hd) W.b.len)))
  | some p =>
    obtain ⟨h1, h2, h3⟩ := leadF_lt hf
    exact SB.stop (ST.for (m := p) (n := v.length) (E_ := fun _ => [.dat d, .no]) (M_ := fun _ => []) (EI.rng1 (EV.len (EV.nm 0) (sqV_len hd) W.b.len) W.b.range (by omega)) Fg.refl rfl (Nat.le_of_lt h1) (fun _ _ => True.intro) (fun i hi => ⟨_, _, _, hrng i, e2 i, .inl (SB.one (ST.no (ET.to (ET.cm (EV.ix (EV.nm 0) (EV.nm 1) (sqV_at hd (by omega))) EV.int CS.neI) (by rw [h3 i hi]; rfl)) SB.nil))⟩)
      (.inr ⟨h1, _, _, hrng p, .inl ⟨_, _, SB.one (ST.yes (ET.to (ET.cm (EV.ix (EV.nm 0) (EV.nm 1) (sqV_at hd h1)) EV.int CS.neI) (by rw [decide_eq_false h2]; rfl)) (SB.one (ST.ret (EV.nm 1)))), rfl⟩⟩))
/-- numbers led by rows -/
def ledV (x : List Int) (m : List (List Int)) (w : Nat) : List Int := (List.range w).map fun i => ((List.range m.length).map fun k => x.getD k 0 * gE m k i).sum
theorem ok_law_led (W : Wd g) : FN g "_law_led" 1 (P3 fun d e f r => ∃ x m w, seqD d = some (x.map D.int) ∧ Sq e m ∧ f = .int ((w : Nat) : Int) ∧ x.length = m.length ∧ m.length < 1000 ∧ w < 1000 ∧ (∀ q ∈ m, q.length = w) ∧ (∀ y ∈ x, y.natAbs < 2 ^ 60) ∧ r = lV (ledV x m w)) := by
  refine FN.mk3 W.t_law_led c_law_led (fun _ _ _ _ _ _ us hl => match us, hl with | [_, _, _], _ => rfl) (fun d e f r h => ?_)
  obtain ⟨x, m, w, hx, hm, rfl, hl, l1, l2, hw, hb, rfl⟩ := h
  refine SB.one (ST.ret (EV.to (LC.ev (LC.lR 3 (j := ((w : Nat) : Int)) (g := fun i => .int ((List.range m.length).map fun k => x.getD k 0 * gE m k i).sum) (own := [("i", 3)]) (by rfl) c_law_led.nd rfl (EV.nm 2) W.b.range (Nat.le_refl _) OkM.refl (by omega) (fun i hi M => ?_))) ?_))
  · have hi' : i < w := by omega
    refine EV.sum (ns := (List.range m.length).map fun k => x.getD k 0 * gE m k i) ?_ W.b.sum
    rw [List.map_map]
    refine EV.to (LC.ev (LC.lR 4 (j := ((m.length : Nat) : Int)) (g := fun k => .int (x.getD k 0 * gE m k i)) (own := [("k", 4)]) (by rfl) c_law_led.nd rfl (EV.len (EV.nm 1) hm.len W.b.len) W.b.range (Nat.le_refl _) OkM.refl (by omega) (fun k hk M => ?_))) (by rw [Int.toNat_natCast]; rfl)
    have hk' : k < m.length := by omega
    have hxb := hb _ (mem_getD (a0 := (0 : Int)) (by omega : k < x.length))
    exact EV.mulL (EV.ix (EV.nm 0) (EV.nm 4) (sqV_at hx (by omega))) (ev_at hm (EV.nm 1) (EV.nm 4) (EV.nm 3) hk' (by rw [hw _ (mem_getD hk')]; exact hi')) (by omega)
  · rw [Int.toNat_natCast]
    exact congrArg O.dat lV_map
theorem lessV_rng {v w : List Int} {k : Int} (h : v.length = w.length) : (List.range v.length).map (fun i => v.getD i 0 - k * w.getD i 0) = lessV v k w := by
  refine List.ext_getElem (by rw [List.length_map, List.length_range, lessV_ln h]) fun i h1 h2 => ?_
  rw [List.length_map, List.length_range] at h1
  have e := lessV_ent (k := k) h i
  rw [List.getD_eq_getElem?_getD, List.getElem?_eq_getElem h2] at e
  rw [List.getElem_map, List.getElem_range]
  exact e.symm
theorem headF_pvt {B : List (List Int)} {w : Nat} {pc : Nat → Nat} (f : HF B w B.length pc) {i : Nat} (hi : i < B.length) : headF (B.getD i []) = pvt B i := by
  unfold headF
  rw [f.lead_row hi, f.pvt hi]
def leftR (B : List (List Int)) (v : List Int) : D := .lst [lV ((List.range B.length).map (quo B v)), lV (red B v B.length)]
theorem ok_law_left (W : Wd g) : FN g "_law_left" 33 (P2 fun d e r => ∃ B w v, RedOk B w v ∧ Sq d B ∧ seqD e = some (v.map D.int) ∧ r = leftR B v) := by
  refine FN.mk2x' W.t_law_left c_law_left (fun _ _ _ _ _ _ us hl => match us, hl with | [_, _], _ => rfl) (fun d e r h => ?_)
  obtain ⟨B, w, v, R, hd, he, rfl⟩ := h
  obtain ⟨pc, f⟩ := R.hf
  have l8 := R.l8
  obtain ⟨ds, hs, hp⟩ := hd
  have hlen := Paired.length hp
  let E : List Int → O → O → O → O → List O := fun l tk rw a m => [.dat d, .dat e, .dat (lV l), tk, rw, a, m, .no]
  let C := mkC g n_law_left s_law_left 32
  refine ⟨[none], SB.cons (E1 := [.dat d, .dat e, .dat (lV v), .no, .no, .no, .no, .no]) (M1 := []) (ST.set 2 (EV.list (EV.nm 1) he W.b.list) c_law_left.nd) (SB.cons (E1 := E v (.adr 0) .no .no .no) (M1 := [rowC []]) (ST.set 3 (EV.cel EA.nil (by decide)) c_law_left.nd) (SB.cons (E1 := E (red B v B.length) (.adr 0) .no .no .no) (M1 := [rowC ((List.range B.length).map (quo B v))]) (ST.forN 4 (n := B.length) (E_ := fun i => E (red B v i) (.adr 0) .no .no .no) (M_ := fun i => [rowC ((List.range i).map (quo B v))]) (hlen ▸ EI.seq (EV.nm 0) hs) Fg.refl rfl (fun _ _ => True.intro) c_law_left.nd (fun i hi => ?_)) (SB.fz (jj := 3) (nn := 0) (ds := ((List.range B.length).map (quo B v)).map D.int) rfl rfl (SB.one (ST.ret (EV.lst (ds := [lV ((List.range B.length).map (quo B v)), lV (red B v B.length)]) (EA.cons (EV.nm 3) (EA.cons (EV.nm 2) EA.nil)) (by show 2 ≤ 100000; decide)))))))⟩
  obtain ⟨q, e1, e2⟩ := paired_at hp (List.getElem?_eq_getElem hi)
  have ea : atO ds i = .dat q := by
    unfold atO
    rw [List.getD_eq_getElem?_getD, e1]
    rfl
  rw [ea]
  have eB : B[i] = B.getD i [] := by rw [List.getD_eq_getElem?_getD, List.getElem?_eq_getElem hi]; rfl
  rw [eB] at e2
  have hrl := f.row_len hi
  have hpl : pvt B i < w := by rw [f.pvt hi]; exact f.lt i hi
  have hr := red_len f R.hl i (by omega)
  have hpz : gE B i (pvt B i) ≠ 0 := by
    rw [f.pvt hi]
    have := f.pos i hi
    omega
  have happ : (some ((((List.range i).map (quo B v)).map D.int).map O.dat ++ [O.dat (D.int (quo B v i))]) : Option (List O)) = rowC ((List.range (i + 1)).map (quo B v)) := by
    rw [List.range_succ, List.map_append, List.map_singleton, rowC_app]
  refine ⟨E (red B v (i + 1)) (.adr 0) (.dat q) (.dat (.int (pvt B i : Int))) (.dat (.int (quo B v i))), Fg.cons (Fg.cons (Fg.cons (Fg.cons (Fg.no (Fg.no (Fg.no Fg.refl)))))), ?_⟩
  refine SB.cons (E1 := E (red B v i) (.adr 0) (.dat q) (.dat (.int (pvt B i : Int))) .no) (M1 := [rowC ((List.range i).map (quo B v))]) (ST.set 5 (EV.to (EV.c1 (ok_law_first W) (EV.nm 4) ⟨B.getD i [], e2, by omega, rfl⟩) (by rw [headF_pvt f hi])) c_law_left.nd) ?_
  refine SB.cons (E1 := E (red B v i) (.adr 0) (.dat q) (.dat (.int (pvt B i : Int))) (.dat (.int (quo B v i)))) (M1 := [rowC ((List.range i).map (quo B v))]) (ST.set 6 (EV.bin (EV.ix (EV.nm 2) (EV.nm 5) (ix_lV (by omega))) (EV.ix (EV.nm 4) (EV.nm 5) (sqV_at e2 (by omega))) (BS.fdivX W.seer W.tree hpz)) c_law_left.nd) ?_
  refine SB.cons (E1 := E (red B v i) (.adr 0) (.dat q) (.dat (.int (pvt B i : Int))) (.dat (.int (quo B v i)))) (M1 := [rowC ((List.range (i + 1)).map (quo B v))]) (ST.to (ST.exp (EV.append (n := 0) (ps := (((List.range i).map (quo B v)).map D.int).map O.dat) (EV.nm 3) (EV.nm 6) rfl rfl (by rw [row_len, List.length_map, List.length_range]; omega))) (congrArg (fun z => Out.nx _ [z]) happ)) ?_
  refine SB.one (ST.to (ST.setC 2 (LC.ev (LC.lR 7 (j := ((w : Nat) : Int)) (g := fun k => .int ((red B v i).getD k 0 - quo B v i * (B.getD i []).getD k 0)) (own := [("k", 7)]) (by rfl) c_law_left.nd rfl (EV.to (EV.len (EV.nm 2) len_lV W.b.len) (by rw [hr])) W.b.range (Nat.le_refl _) OkM.refl (by omega) (fun k hk M => ?_))) c_law_left.nd (fun env he => sw_cell (by rw [he]; rfl))) ?_)
  · have hk' : k < w := by omega
    exact EV.sub (EV.ix (EV.nm 2) (EV.nm 7) (ix_lV (by omega))) (EV.mul (EV.nm 6) (EV.ix (EV.nm 4) (EV.nm 7) (sqV_at e2 (by omega))) (R.ok i hi _ (mem_getD (by omega))))
  · rw [Int.toNat_natCast, ← hr]
    have e5 : D.lst ((List.range (red B v i).length).map fun k => D.int ((red B v i).getD k 0 - quo B v i * (B.getD i []).getD k 0)) = lV (red B v (i + 1)) := by
      rw [lV_map, lessV_rng (by rw [hr, hrl])]
      rfl
    rw [e5]
    rfl
end
end
section
/-! ### lists of rows, tidied -/
section
theorem cel_take {m : List (List Int)} {k : Nat} (hk : k < m.length) : (some (((m.take k).map lV).map O.dat ++ [O.dat (lV m[k])]) : Option (List O)) = cel (m.take (k + 1)) := by
  show some _ = some _
  rw [List.take_succ_eq_append_getElem hk, List.map_append, List.map_append]
  rfl
theorem end_set {pre : Mem} {c c' : Option (List O)} : (pre ++ [c]).set pre.length c' = pre ++ [c'] := by
  rw [List.set_append_right _ _ (Nat.le_refl _), Nat.sub_self]
  rfl
theorem end_get {pre : Mem} {c : Option (List O)} : (pre ++ [c])[pre.length]? = some c := by
  rw [List.getElem?_append_right (Nat.le_refl _), Nat.sub_self]
  rfl
/-- [list(x) for x in rows], a list that will change -/
theorem LC.outC {C : Cc} {E : List O} {pre : Mem} {d : D} {m : List (List Int)} {iter : Expr} {jx : Nat} {own : List (Str × Nat)} {sc : Scope} {x : Str} {p p1 p2 p3 : Pos} (W : Wd C.g) (h : Sq d m) (hz : m.length < 100000) (ok : blkC C.N C.sc sc own = true) (nd : C.N.Nodup) (ho : own.map (·.2) = [jx]) (hi : EV C iter E pre (.dat d) pre)
    (hN : C.N[jx]? = some x := by rfl) (hx : Loc (C.blk sc).sc x := by first | exact Or.inl rfl | exact Or.inr rfl) (hf' : (C.blk sc).fn x = true ∨ (C.blk sc).sc.names.lookup x = some .local := by first | exact .inl rfl | exact .inr rfl)
    (hf : ∀ env x, foldedSetIterable iter env x = pure x := by intro _ _; rfl) (hgl : (C.blk sc).sc.names.lookup ("list" : Str) = some .globalImplicit := by rfl) (hE : ∀ y, ((wipeE E [jx]).set jx (.dat y))[jx]? = some (.dat y) := by intro _; rfl)
    (hd : (x == ("__debug__" : Str)) = false := by decide) (hcd : (x == ("__classdict__" : Str)) = false := by decide) (hv : Vis (C.blk sc).sc x := by first | exact Or.inl rfl | exact Or.inr (Or.inl rfl) | exact Or.inr (Or.inr rfl)) : LC C (.Call (.Name "list" p1) [.Name x p2] [] p3) (.Name x p) iter [] sc own E pre (.adr pre.length) (pre ++ [cel m]) := by
  obtain ⟨ds, hs, hp⟩ := h
  have hlen := Paired.length hp
  have key := LC.lX (C := C) (E := E) (M := pre) (p := p) (x := x) (elt := .Call (.Name "list" p1) [.Name x p2] [] p3) (scope := sc) (own := own) jx (xs := ds) (f := fun e => e) (M1 := pre) (fun k => pre ++ [cel (m.take k)]) (fun k => ((m.take k).map lV).map O.dat) ok nd ho hi (by rw [hs, List.map_id']) rfl rfl (fun i hi' => by
    have hm : i < m.length := by omega
    obtain ⟨a, ha, hq⟩ := paired_at hp (List.getElem?_eq_getElem hm)
    rw [List.getElem?_eq_getElem hi'] at ha
    cases ha
    exact ⟨.dat (lV m[i]), pre ++ [cel (m.take i)], EV.list (EV.nm jx hN (hE _) (by intro z; cases z) hv hd hcd) hq W.b.list rfl hgl, end_get, by rw [List.length_map, List.length_map, List.length_take]; omega, by rw [end_set, cel_take hm], Option.some.inj (cel_take hm).symm⟩) hN hx hf' hf
  rw [hlen, List.take_length] at key
  exact key
theorem cel_row {m : List (List Int)} {i : Nat} (h : i < m.length) : atI ((m.map lV).map O.dat) ((i : Nat) : Int) = some (.dat (lV (m.getD i []))) := cel_at h
end
section
variable {g : Pg}
def tdIn (T : List (List Int)) (k : Nat) : Nat → List (List Int)
  | 0 => T
  | j + 1 => (tdIn T k j).set j (lessV ((tdIn T k j).getD j []) ((gE (tdIn T k j) j (headF (T.getD k []))).fdiv (gE (tdIn T k j) k (headF (T.getD k [])))) ((tdIn T k j).getD k []))
def tdOut (m : List (List Int)) : Nat → List (List Int)
  | 0 => m
  | k + 1 => tdIn (tdOut m k) k k
structure TdOk (m : List (List Int)) (w : Nat) : Prop where
  wid : ∀ q ∈ m, q.length = w
  l8 : m.length < 1000 ∧ w < 1000
  ok : ∀ k, k < m.length → ∀ j, j < k → headF ((tdOut m k).getD k []) < w ∧ gE (tdIn (tdOut m k) k j) k (headF ((tdOut m k).getD k [])) ≠ 0 ∧ ∀ y ∈ (tdIn (tdOut m k) k j).getD k [], IntMulOk ((gE (tdIn (tdOut m k) k j) j (headF ((tdOut m k).getD k []))).fdiv (gE (tdIn (tdOut m k) k j) k (headF ((tdOut m k).getD k [])))) y
theorem tdIn_len {T : List (List Int)} {k : Nat} : ∀ j, (tdIn T k j).length = T.length
  | 0 => rfl
  | j + 1 => by
    show (List.set _ _ _).length = _
    rw [List.length_set, tdIn_len j]
theorem tdOut_len {m : List (List Int)} : ∀ k, (tdOut m k).length = m.length
  | 0 => rfl
  | k + 1 => by
    show (tdIn _ _ _).length = _
    rw [tdIn_len, tdOut_len k]
theorem tdIn_wid {T : List (List Int)} {k w : Nat} (h : ∀ q ∈ T, q.length = w) (hk : k < T.length) : ∀ j, j ≤ k → ∀ q ∈ tdIn T k j, q.length = w
  | 0, _ => h
  | j + 1, hj => fun q hq => by
    have ih := tdIn_wid h hk j (by omega)
    have l := tdIn_len (T := T) (k := k) j
    rcases List.mem_or_eq_of_mem_set hq with hq | rfl
    · exact ih q hq
    · rw [lessV_ln (by rw [ih _ (mem_getD (by omega)), ih _ (mem_getD (by omega))])]
      exact ih _ (mem_getD (by omega))
theorem tdOut_wid {m : List (List Int)} {w : Nat} (h : ∀ q ∈ m, q.length = w) : ∀ k, k ≤ m.length → ∀ q ∈ tdOut m k, q.length = w
  | 0, _ => h
  | k + 1, hk => tdIn_wid (tdOut_wid h k (by omega)) (by rw [tdOut_len]; omega) k (Nat.le_refl _)
theorem ok_law_tidied (W : Wd g) : FN g "_law_tidied" 33 (P1 fun d r => ∃ m w, Sq d m ∧ TdOk m w ∧ r = lM (tdOut m m.length)) := by
  refine FN.mk1x W.t_law_tidied c_law_tidied (fun _ _ _ _ _ _ us hl => match us, hl with | [_], _ => rfl) (fun d r h => ?_)
  obtain ⟨m, w, hd, T, rfl⟩ := h
  have l8 := T.l8
  let C := mkC g n_law_tidied s_law_tidied 32
  let E : O → O → O → O → List O := fun k a j mn => [.dat d, .adr 0, k, a, j, mn, .no, .no]
  refine ⟨[none], SB.cons (E1 := E .no .no .no .no) (M1 := [cel m]) (ST.setC 1 (LC.ev (LC.outC (pre := []) (jx := 6) (own := [("row", 6)]) W hd (by omega) (by rfl) c_law_tidied.nd rfl (EV.nm 0))) c_law_tidied.nd (fun env he => sw_cell (by rw [he]; rfl))) ?_⟩
  have hcl : ((m.map lV).map O.dat).length = m.length := cel_len
  refine SB.cons (E1 := E .no .no .no .no) (M1 := [cel (tdOut m m.length)]) (ST.to (ST.forN 2 (n := ((m.map lV).map O.dat).length) (E_ := fun _ => E .no .no .no .no) (M_ := fun k => [cel (tdOut m k)]) (EI.rng1 (EV.lenC (nn := 0) (EV.nm 1) rfl W.b.len) W.b.range (by omega)) Fg.refl rfl (fun _ _ => True.intro) c_law_tidied.nd (fun k hk => ?_)) (by rw [hcl])) (SB.fz (jj := 1) (nn := 0) (ds := (tdOut m m.length).map lV) rfl rfl (SB.one (ST.ret (EV.nm 1))))
  rw [hcl] at hk
  have hkl : k < (tdOut m k).length := by rw [tdOut_len]; exact hk
  have hTw := tdOut_wid T.wid k (by omega)
  generalize hT : tdOut m k = Tk at hkl hTw
  have ok := T.ok k hk
  rw [hT] at ok
  have ht1 : tdOut m (k + 1) = tdIn Tk k k := by rw [← hT]; rfl
  rw [ht1, atI0_eq]
  let at_ : Nat := headF (Tk.getD k [])
  have rowA : ∀ {U : List (List Int)} {e : Expr} {E2 : List O} {i : Nat} {p p2 : Pos}, E2[1]? = some (.adr 0) → i < U.length → EV C e E2 [cel U] (.dat (.int (i : Int))) [cel U] → PlainIx e → EV C (.Subscript (.Name "out" p) e p2) E2 [cel U] (.dat (lV (U.getD i []))) [cel U] := fun h0 h1 h2 h3 => EV.ixC (n := 0) (EV.nm 1 (h := h0)) h2 rfl (cel_row h1) h3
  refine ⟨E (.dat (.int (k : Int))) (.dat (.int (at_ : Int))) .no .no, Fg.cons (Fg.cons (Fg.no (Fg.no Fg.refl))), SB.cons (E1 := E (.dat (.int (k : Int))) (.dat (.int (at_ : Int))) .no .no) (M1 := [cel Tk]) (ST.set 3 (EV.c1 (ok_law_first W) (rowA rfl hkl (EV.nm 2) (fun _ _ => rfl)) ⟨Tk.getD k [], rfl, by rw [hTw _ (mem_getD hkl)]; omega, rfl⟩) c_law_tidied.nd) (SB.one ?_)⟩
  refine ST.forN 4 (n := k) (E_ := fun _ => E (.dat (.int (k : Int))) (.dat (.int (at_ : Int))) .no .no) (M_ := fun j => [cel (tdIn Tk k j)]) (EI.rng1 (j := (k : Int)) (EV.nm 2) W.b.range (by omega)) Fg.refl rfl (fun _ _ => True.intro) c_law_tidied.nd (fun j hj => ?_)
  obtain ⟨o1, o2, o3⟩ := ok j hj
  have hUl := tdIn_len (T := Tk) (k := k) j
  have hUw := tdIn_wid hTw hkl j (by omega)
  have hset : tdIn Tk k (j + 1) = (tdIn Tk k j).set j (lessV ((tdIn Tk k j).getD j []) ((gE (tdIn Tk k j) j at_).fdiv (gE (tdIn Tk k j) k at_)) ((tdIn Tk k j).getD k [])) := rfl
  rw [hset]
  generalize tdIn Tk k j = U at hUl hUw o2 o3
  have hju : j < U.length := by omega
  have hku : k < U.length := by omega
  have hjw := hUw _ (mem_getD hju : U.getD j [] ∈ U)
  have hkw := hUw _ (mem_getD hku : U.getD k [] ∈ U)
  have at1 : at_ < w := o1
  rw [atI0_eq]
  let q : Int := (gE U j at_).fdiv (gE U k at_)
  refine ⟨E (.dat (.int (k : Int))) (.dat (.int (at_ : Int))) (.dat (.int (j : Int))) (.dat (.int q)), Fg.cons (Fg.cons (Fg.cons (Fg.cons (Fg.no (Fg.no Fg.refl))))), ?_⟩
  refine SB.cons (E1 := E (.dat (.int (k : Int))) (.dat (.int (at_ : Int))) (.dat (.int (j : Int))) (.dat (.int q))) (M1 := [cel U]) (ST.set 5 (EV.bin (EV.ix (rowA rfl hju (EV.nm 4) (fun _ _ => rfl)) (EV.nm 3) (ix_lV (by omega))) (EV.ix (rowA rfl hku (EV.nm 2) (fun _ _ => rfl)) (EV.nm 3) (ix_lV (by omega))) (BS.fdivX W.seer W.tree o2)) c_law_tidied.nd) (SB.one ?_)
  have hfin : ([cel U] : Mem).set 0 (some (((U.map lV).map O.dat).set j (.dat (lV (lessV (U.getD j []) q (U.getD k [])))))) = [cel (U.set j (lessV (U.getD j []) q (U.getD k [])))] := by
    show [some _] = [some _]
    rw [List.map_set, List.map_set]
  refine ST.to (ST.asg (M1 := [cel U]) (EV.to (LC.ev (LC.lRS 7 (j := ((w : Nat) : Int)) (v := fun i => .int ((U.getD j []).getD i 0 - q * (U.getD k []).getD i 0)) (M_ := fun _ => [cel U]) (own := [("i", 7)]) (by rfl) c_law_tidied.nd rfl (EV.to (EV.len (rowA rfl hju (EV.nm 4) (fun _ _ => rfl)) len_lV W.b.len) (by rw [hjw])) W.b.range rfl (fun _ _ => rfl) (Nat.le_refl _) OkM.refl (by omega) (fun i hi c => ?_))) ?_) (EG.sub (n := 0) (jj := j) (ps := (U.map lV).map O.dat) (EV.nm 1) (EV.nm 4) rfl (by rw [List.length_map, List.length_map]; exact ixN_of hju))) (congrArg (Out.nx _) hfin)
  · have hi' : i < w := by omega
    have rowB : ∀ {e : Expr} {i : Nat} {E2 : List O} {p p2 : Pos} {sc : Scope}, i < U.length → EV (C.blk sc) e E2 ([cel U] ++ [c]) (.dat (.int (i : Int))) ([cel U] ++ [c]) → EV (C.blk sc) (.Name "out" p) E2 ([cel U] ++ [c]) (.adr 0) ([cel U] ++ [c]) → PlainIx e → EV (C.blk sc) (.Subscript (.Name "out" p) e p2) E2 ([cel U] ++ [c]) (.dat (lV (U.getD i []))) ([cel U] ++ [c]) := fun h1 h2 h0 h3 => EV.ixC (n := 0) h0 h2 rfl (cel_row h1) h3
    exact EV.sub (EV.ix (rowB hju (EV.nm 4) (EV.nm 1) (fun _ _ => rfl)) (EV.nm 7) (ix_lV (by omega))) (EV.mul (EV.nm 5) (EV.ix (rowB hku (EV.nm 2) (EV.nm 1) (fun _ _ => rfl)) (EV.nm 7) (ix_lV (by omega))) (o3 _ (mem_getD (by omega))))
  · rw [Int.toNat_natCast, ← hjw, lV_map, lessV_rng (by rw [hjw, hkw])]
end
end
section
/-! ### sums that fit, the box, the form of what fits -/
section
variable {g : Pg}
def dotI (x y : List Int) : Int := ((List.range x.length).map fun k => x.getD k 0 * y.getD k 0).sum
theorem ok_law_dot (W : Wd g) : FN g "_law_dot" 1 (P2 fun d e r => ∃ x y, seqD d = some (x.map D.int) ∧ seqD e = some (y.map D.int) ∧ x.length = y.length ∧ x.length < 100000 ∧ (∀ z ∈ x, z.natAbs < 2 ^ 60) ∧ r = .int (dotI x y)) := by
  refine FN.mk2 W.t_law_dot c_law_dot (fun _ _ _ _ _ _ us hl => match us, hl with | [_, _], _ => rfl) (fun d e r h => ?_)
  obtain ⟨x, y, hx, hy, hl, hz, hb, rfl⟩ := h
  refine SB.one (ST.ret (EV.sum (ns := (List.range x.length).map fun k => x.getD k 0 * y.getD k 0) ?_ W.b.sum))
  rw [List.map_map]
  refine EV.to (LC.ev (LC.lR 2 (j := ((x.length : Nat) : Int)) (g := fun k => .int (x.getD k 0 * y.getD k 0)) (own := [("k", 2)]) (by rfl) c_law_dot.nd rfl (EV.len (EV.nm 0) (sqV_len hx) W.b.len) W.b.range (Nat.le_refl _) OkM.refl (by omega) (fun k hk M => ?_))) (by rw [Int.toNat_natCast]; rfl)
  have hk' : k < x.length := by omega
  exact EV.mulL (EV.ix (EV.nm 0) (EV.nm 2) (sqV_at hx hk')) (EV.ix (EV.nm 1) (EV.nm 2) (sqV_at hy (by omega))) (by have := hb _ (mem_getD (a0 := (0 : Int)) hk'); omega)
def fitsB (sums : List (List Int)) (m : Int) (v : List Int) : Bool := sums.all fun c => decide (dotI c v % m = 0)
theorem ok_law_fits (W : Wd g) : FN g "_law_fits" 2 (P3 fun d e f r => ∃ sums m v, d = lM sums ∧ e = .int m ∧ f = lV v ∧ 0 < m ∧ sums.length < 1000 ∧ v.length < 1000 ∧ (∀ c ∈ sums, c.length = v.length ∧ ∀ z ∈ c, z.natAbs < 2 ^ 60) ∧ r = .bl (fitsB sums m v)) := by
  refine FN.mk3 W.t_law_fits c_law_fits (fun _ _ _ _ _ _ us hl => match us, hl with | [_, _, _], _ => rfl) (fun d e f r h => ?_)
  obtain ⟨sums, m, v, rfl, rfl, rfl, hm, l1, l2, hc, rfl⟩ := h
  have hlen : (sums.map lV).length = sums.length := List.length_map _
  have key : (List.range sums.length).all (fun i => decide (dotI (sums.getD i []) v % m = 0)) = fitsB sums m v := by
    unfold fitsB
    rw [Bool.eq_iff_iff, List.all_eq_true, List.all_eq_true]
    refine ⟨fun h c hc => ?_, fun h i hi => h _ (mem_getD (List.mem_range.mp hi))⟩
    obtain ⟨i, hi, rfl⟩ := List.getElem_of_mem hc
    have := h i (List.mem_range.mpr hi)
    rw [List.getD_eq_getElem?_getD, List.getElem?_eq_getElem hi] at this
    exact this
  let F : O → List O := fun c => [.dat (lM sums), .dat (.int m), .dat (lV v), c]
  refine SB.forB (n := sums.length) (E0 := F .no) (M0 := []) (good := fun i => decide (dotI (sums.getD i []) v % m = 0)) (out := .dat (.bl false)) (hlen ▸ EI.seq (ds := sums.map lV) (EV.nm 0) rfl) Fg.refl True.intro (fun i hi => ?_) (fun h => SB.one (ST.ret (EV.to EV.bl (by rw [← key, h])))) (fun h => by rw [← key, h])
  have ea : atO (sums.map lV) i = .dat (lV (sums.getD i [])) := by
    unfold atO
    rw [List.getD_eq_getElem?_getD, List.getElem?_map, List.getElem?_eq_getElem hi, List.getD_eq_getElem?_getD, List.getElem?_eq_getElem hi]
    rfl
  rw [ea]
  obtain ⟨c1, c2⟩ := hc _ (mem_getD hi : sums.getD i [] ∈ sums)
  refine ⟨F (.dat (lV (sums.getD i []))), EG.nm 3 c_law_fits.nd, fun h => ⟨F (.dat (lV (sums.getD i []))), Fg.cons (Fg.cons (Fg.cons (Fg.no Fg.nil))), SB.one (ST.no (ET.to (ET.cm (EV.mod (EV.intI (EV.c2 (ok_law_dot W) (EV.nm 3) (EV.nm 2) ⟨sums.getD i [], v, rfl, rfl, c1, by omega, c2, rfl⟩) W.b.int) (EV.nm 1) hm) EV.int CS.neI) (by rw [of_decide_eq_true h]; rfl)) SB.nil)⟩, fun h => SB.one (ST.yes (ET.to (ET.cm (EV.mod (EV.intI (EV.c2 (ok_law_dot W) (EV.nm 3) (EV.nm 2) ⟨sums.getD i [], v, rfl, rfl, c1, by omega, c2, rfl⟩) W.b.int) (EV.nm 1) hm) EV.int CS.neI) (by have := of_decide_eq_false h; rw [decide_eq_false this]; rfl)) (SB.one (ST.ret EV.bl)))⟩
end
end
section
/-! ### the box -/
section
variable {g : Pg}
theorem FN.mk3x {g : Pg} {x y z u : Str} {st : Stmt} {N : List Str} {k : Nat} {F : D → D → D → D → Prop} (T : TxtF g x st) (S : FnScope N [y, z, u] (defScope st))
    (hb : ∀ (kV doc pm : Value) (an : Option Addr) (cdv ct : Value) (us : List Value), us.length = 3 → bindArgs (PySem.W.fnOf x x (defArgs st) (defBody st) (defScope st) .none kV doc pm an cdv ct) ⟨us, []⟩ = pure ([y, z, u].zip us))
    (body : ∀ d e f r, F d e f r → ∃ J, SB (Ab.mkC g N st k) (defBody st) (pad N [.dat d, .dat e, .dat f]) [] (.rt (.dat r) J)) : FN g x (k + 1) (P3 F) :=
  FN.mkJ T S hb (fun os M o M' h => by obtain ⟨d, e, f, r, rfl, _⟩ := h; rfl) (fun os M o M' h => by obtain ⟨d, e, f, r, rfl, rfl, rfl, rfl, h⟩ := h; obtain ⟨J, h⟩ := body d e f r h; exact ⟨Nat.le_refl _, True.intro, LowM.nil, J, h⟩)
def boxR (low : Int) (n : Nat) (v : List Int) : List (List Int) := (List.range n).map fun (i : Nat) => v ++ [low + (i : Int)]
def boxV (low : Int) (n : Nat) : Nat → List (List Int)
  | 0 => [[]]
  | k + 1 => (boxV low n k).flatMap (boxR low n)
theorem box_len {low : Int} {n : Nat} : ∀ k, (boxV low n k).length = n ^ k
  | 0 => rfl
  | k + 1 => by
    show ((boxV low n k).flatMap (boxR low n)).length = _
    rw [List.length_flatMap]
    have : ∀ l : List (List Int), (l.map fun a => (boxR low n a).length).sum = l.length * n := fun l => by
      induction l with
      | nil => simp
      | cons a l ih =>
        rw [List.map_cons, List.sum_cons, ih, List.length_cons]
        unfold boxR
        rw [List.length_map, List.length_range, Nat.add_mul, Nat.one_mul, Nat.add_comm]
    rw [this, box_len k, Nat.pow_succ]
theorem box_wid {low : Int} {n : Nat} : ∀ k, ∀ v ∈ boxV low n k, v.length = k
  | 0, v, h => by
    rw [List.mem_singleton.mp h]
    rfl
  | k + 1, v, h => by
    obtain ⟨u, hu, hv⟩ := List.mem_flatMap.mp h
    obtain ⟨i, _, rfl⟩ := List.mem_map.mp hv
    rw [List.length_append, box_wid k u hu]
    rfl
theorem boxR_len {low : Int} {n : Nat} {v : List Int} : (boxR low n v).length = n := by
  unfold boxR
  rw [List.length_map, List.length_range]
theorem boxR_take {low : Int} {n : Nat} {v : List Int} {i : Nat} (h : i < n) : (boxR low n v).take (i + 1) = (boxR low n v).take i ++ [v ++ [low + (i : Int)]] := by
  rw [List.take_succ_eq_append_getElem (by rw [boxR_len]; exact h)]
  unfold boxR
  rw [List.getElem_map, List.getElem_range]
theorem flat_take {low : Int} {n : Nat} {F : List (List Int)} {i : Nat} (h : i < F.length) : (F.take (i + 1)).flatMap (boxR low n) = (F.take i).flatMap (boxR low n) ++ boxR low n (F.getD i []) := by
  rw [List.take_succ_eq_append_getElem h, List.flatMap_append, List.flatMap_singleton, List.getD_eq_getElem?_getD, List.getElem?_eq_getElem h]
  rfl
theorem cel_app {m : List (List Int)} {v : List Int} : (some ((m.map lV).map O.dat ++ [O.dat (lV v)]) : Option (List O)) = cel (m ++ [v]) := by
  show _ = some (((m ++ [v]).map lV).map O.dat)
  rw [List.map_append, List.map_append]
  rfl
theorem ok_law_box (W : Wd g) : FN g "_law_box" 1 (P3 fun d e f r => ∃ (w n : Nat) (low : Int), d = .int (w : Int) ∧ e = .int low ∧ f = .int (low + (n : Int) - 1) ∧ w ≤ 3 ∧ n ≤ 7 ∧ low.natAbs < 1000 ∧ r = lM (boxV low n w)) := by
  refine FN.mk3x W.t_law_box c_law_box (fun _ _ _ _ _ _ us hl => match us, hl with | [_, _, _], _ => rfl) (fun d e f r h => ?_)
  obtain ⟨w, n, low, rfl, rfl, rfl, hw, hn, hlow, rfl⟩ := h
  let C := mkC g n_law_box s_law_box 0
  let E : D → O → O → O → O → List O := fun fd k mo v x => [.dat (.int (w : Int)), .dat (.int low), .dat (.int (low + (n : Int) - 1)), .dat fd, k, mo, v, x]
  have big : ∀ k, k ≤ 3 → (boxV low n k).length ≤ 343 := fun k hk => by
    rw [box_len]
    have h1 : n ^ k ≤ 7 ^ k := Nat.pow_le_pow_left hn k
    have h2 : 7 ^ k ≤ 7 ^ 3 := Nat.pow_le_pow_right (by decide) hk
    omega
  refine ⟨List.replicate w none, SB.cons (E1 := E (lM [[]]) .no .no .no .no) (M1 := []) (ST.set 3 (EV.lst (ds := [lV []]) (EA.cons (EV.lst (ds := []) EA.nil (by decide)) EA.nil) (by decide)) c_law_box.nd) (SB.cons (E1 := E (lM (boxV low n w)) .no .no .no .no) (M1 := List.replicate w none) (ST.forN 4 (n := w) (E_ := fun k => E (lM (boxV low n k)) .no .no .no .no) (M_ := fun k => List.replicate k none) (EI.rng1 (j := (w : Int)) (EV.nm 0) W.b.range (by omega)) Fg.refl rfl (fun _ _ => True.intro) c_law_box.nd (fun k hk => ?_)) (SB.one (ST.ret (EV.nm 3))))⟩
  rw [atI0_eq]
  have hFl := big k (by omega)
  have hnx := big (k + 1) (by omega)
  have hex : boxV low n (k + 1) = (boxV low n k).flatMap (boxR low n) := rfl
  rw [hex] at hnx ⊢
  have hwid := box_wid (low := low) (n := n) k
  generalize boxV low n k = F at hFl hnx hwid
  let Mk : List (List Int) → Mem := fun acc => List.replicate k none ++ [cel acc]
  have mget : ∀ {acc : List (List Int)}, (Mk acc)[k]? = some (cel acc) := fun {acc} => by
    show (List.replicate k none ++ [cel acc])[k]? = _
    rw [List.getElem?_append_right (by rw [List.length_replicate]; exact Nat.le_refl _), List.length_replicate, Nat.sub_self]
    rfl
  have mset : ∀ {acc : List (List Int)} {c : Option (List O)}, (Mk acc).set k c = List.replicate k none ++ [c] := fun {acc c} => by
    show (List.replicate k none ++ [cel acc]).set k c = _
    rw [List.set_append_right _ _ (by rw [List.length_replicate]; exact Nat.le_refl _), List.length_replicate, Nat.sub_self]
    rfl
  have hml : (F.map lV).length = F.length := List.length_map _
  have small : ∀ i, i < F.length → ((F.take i).flatMap (boxR low n)).length + n ≤ 343 := fun i hi => by
    have e : F = F.take (i + 1) ++ F.drop (i + 1) := (List.take_append_drop _ _).symm
    rw [e, List.flatMap_append, List.length_append, flat_take hi, List.length_append, boxR_len] at hnx
    omega
  refine ⟨E (lM (F.flatMap (boxR low n))) (.dat (.int (k : Int))) (.dat (lM (F.flatMap (boxR low n)))) .no .no, Fg.cons (Fg.cons (Fg.cons (Fg.cons (Fg.no (Fg.no Fg.refl))))), ?_⟩
  refine SB.cons (E1 := E (lM F) (.dat (.int (k : Int))) (.adr k) .no .no) (M1 := Mk []) (ST.to (ST.set 5 (EV.cel EA.nil (by decide)) c_law_box.nd) (by rw [List.length_replicate]; rfl)) ?_
  refine SB.cons (E1 := E (lM F) (.dat (.int (k : Int))) (.adr k) .no .no) (M1 := Mk (F.flatMap (boxR low n))) (ST.to (ST.forN 6 (n := F.length) (E_ := fun _ => E (lM F) (.dat (.int (k : Int))) (.adr k) .no .no) (M_ := fun i => Mk ((F.take i).flatMap (boxR low n))) (hml ▸ EI.seq (ds := F.map lV) (EV.nm 3) rfl) Fg.refl rfl (fun _ _ => True.intro) c_law_box.nd (fun i hi => ?_)) (by rw [List.take_length])) ?_
  · have ea : atO (F.map lV) i = .dat (lV (F.getD i [])) := by
      unfold atO
      rw [List.getD_eq_getElem?_getD, List.getElem?_map, List.getElem?_eq_getElem hi, List.getD_eq_getElem?_getD, List.getElem?_eq_getElem hi]
      rfl
    rw [ea, flat_take hi]
    have hs := small i hi
    have hq := hwid _ (mem_getD hi : F.getD i [] ∈ F)
    generalize (F.take i).flatMap (boxR low n) = acc at hs
    generalize F.getD i [] = q at hq
    have e : (low + (n : Int) - 1 + 1 - low).toNat = n := by omega
    have ei : ∀ j, atI0 low j = .dat (.int (low + (j : Int))) := fun j => rfl
    refine ⟨E (lM F) (.dat (.int (k : Int))) (.adr k) (.dat (lV q)) .no, Fg.cons (Fg.cons (Fg.cons (Fg.cons (Fg.cons (Fg.cons (Fg.no Fg.refl)))))), SB.one (ST.to (ST.forN 7 (n := n) (E_ := fun _ => E (lM F) (.dat (.int (k : Int))) (.adr k) (.dat (lV q)) .no) (M_ := fun j => Mk (acc ++ (boxR low n q).take j)) (it := atI0 low) (e ▸ EI.rng2 (i := low) (j := low + (n : Int) - 1 + 1) (EV.nm 1) (EV.add (EV.nm 2) EV.int) W.b.range (by omega) (by omega)) Fg.refl (by rw [List.take_zero, List.append_nil]) (fun _ _ => True.intro) c_law_box.nd (fun j hj => ?_)) (by rw [List.take_of_length_le (by rw [boxR_len]; exact Nat.le_refl _)]))⟩
    · rw [ei]
      have hl : (acc ++ (boxR low n q).take j).length < 100000 := by
        rw [List.length_append, List.length_take, boxR_len]
        omega
      refine ⟨E (lM F) (.dat (.int (k : Int))) (.adr k) (.dat (lV q)) (.dat (.int (low + (j : Int)))), Fg.cons (Fg.cons (Fg.cons (Fg.cons (Fg.cons (Fg.cons (Fg.cons (Fg.no Fg.refl))))))), SB.one (ST.to (ST.exp (EV.append (n := k) (ps := ((acc ++ (boxR low n q).take j).map lV).map O.dat) (EV.nm 5) (EV.to (o' := .dat (lV (q ++ [low + (j : Int)]))) (EV.bin (EV.nm 6) (EV.lst (ds := [D.int (low + (j : Int))]) (EA.cons (EV.nm 7) EA.nil) (by show 1 ≤ 100000; decide)) (BS.addL (by rw [List.length_map]; simp; omega))) ?_) mget mget (by rw [List.length_map, List.length_map]; exact hl))) ?_)⟩
      · show O.dat (D.lst (q.map D.int ++ [D.int (low + (j : Int))])) = O.dat (D.lst ((q ++ [low + (j : Int)]).map D.int))
        rw [List.map_append]
        rfl
      · rw [mset, cel_app, boxR_take hj, List.append_assoc]
        rfl
  · exact SB.fz (jj := 5) (nn := k) (ds := (F.flatMap (boxR low n)).map lV) rfl mget (SB.one (ST.to (ST.set 3 (EV.nm 5) c_law_box.nd) (by rw [mset, List.replicate_succ']; rfl)))
end
end
section
/-! ### the form of what fits -/
section
variable {g : Pg}
def diagM (m : Int) (w : Nat) : List (List Int) := (List.range w).map fun (k : Nat) => (List.range w).map fun (j : Nat) => m * (if (k : Int) = (j : Int) then 1 else 0)
theorem diagM_len {m : Int} {w : Nat} : (diagM m w).length = w := by
  unfold diagM
  rw [List.length_map, List.length_range]
theorem gE_diagM {m : Int} {w i j : Nat} (hi : i < w) (hj : j < w) : gE (diagM m w) i j = if i = j then m else 0 := by
  unfold gE diagM
  rw [List.getD_eq_getElem?_getD (l := List.map _ _), List.getElem?_map, List.getElem?_range hi, Option.map_some, Option.getD_some, List.getD_eq_getElem?_getD, List.getElem?_map, List.getElem?_range hj, Option.map_some, Option.getD_some]
  by_cases h : i = j
  · rw [if_pos (by omega), if_pos h, Int.mul_one]
  · rw [if_neg (by omega), if_neg h, Int.mul_zero]
theorem diagM_wid {m : Int} {w : Nat} : ∀ q ∈ diagM m w, q.length = w := fun q hq => by
  obtain ⟨k, _, rfl⟩ := List.mem_map.mp hq
  rw [List.length_map, List.length_range]
def shp1 (w : Nat) (T : List (List Int)) (v : List Int) : List (List Int) := if headF v < w ∧ v.getD (headF v) 0 < gE T (headF v) (headF v) then T.set (headF v) v else T
def shpT (m : Int) (w : Nat) (seen : List (List Int)) : List (List Int) := seen.foldl (shp1 w) (diagM m w)
theorem shp1_len {w : Nat} {T : List (List Int)} {v : List Int} : (shp1 w T v).length = T.length := by
  unfold shp1
  split
  · rw [List.length_set]
  · rfl
theorem shp1_wid {w : Nat} {T : List (List Int)} {v : List Int} (h : ∀ q ∈ T, q.length = w) (hv : v.length = w) : ∀ q ∈ shp1 w T v, q.length = w := fun q hq => by
  unfold shp1 at hq
  split at hq
  · rcases List.mem_or_eq_of_mem_set hq with hq | rfl
    · exact h q hq
    · exact hv
  · exact h q hq
theorem shpT_wid {w : Nat} : ∀ {seen T : List (List Int)}, (∀ v ∈ seen, v.length = w) → T.length = w → (∀ q ∈ T, q.length = w) → (seen.foldl (shp1 w) T).length = w ∧ ∀ q ∈ seen.foldl (shp1 w) T, q.length = w
  | [], T, _, hT, hw => ⟨hT, hw⟩
  | v :: seen, T, hv, hT, hw => shpT_wid (seen := seen) (fun u hu => hv u (List.mem_cons_of_mem _ hu)) (by rw [shp1_len, hT]) (shp1_wid hw (hv v List.mem_cons_self))
theorem shp_take {w i : Nat} {seen T : List (List Int)} (h : i < seen.length) : (seen.take (i + 1)).foldl (shp1 w) T = shp1 w ((seen.take i).foldl (shp1 w) T) (seen.getD i []) := by
  rw [List.take_succ_eq_append_getElem h, List.foldl_append, List.getD_eq_getElem?_getD, List.getElem?_eq_getElem h]
  rfl
def testOf : Stmt → Expr
  | .If c _ _ _ => c
  | _ => .Name "" ⟨0, 0, 0, 0⟩
theorem row_lV {F : List (List Int)} {i : Nat} (hi : i < F.length) : atO (F.map lV) i = .dat (lV (F.getD i [])) := by
  unfold atO
  rw [List.getD_eq_getElem?_getD, List.getElem?_map, List.getElem?_eq_getElem hi, List.getD_eq_getElem?_getD, List.getElem?_eq_getElem hi]
  rfl
theorem ok_law_shape (W : Wd g) : FN g "_law_shape" 34 (P3 fun d e f r => ∃ (seen : List (List Int)) (w : Nat) (m : Int), d = lM seen ∧ e = .int (w : Int) ∧ f = .int m ∧ (∀ v ∈ seen, v.length = w) ∧ seen.length < 100000 ∧ TdOk (shpT m w seen) w ∧ w < 1000 ∧ m.natAbs < 2 ^ 60 ∧ r = lM (tdOut (shpT m w seen) w)) := by
  refine FN.mk3x W.t_law_shape c_law_shape (fun _ _ _ _ _ _ us hl => match us, hl with | [_, _, _], _ => rfl) (fun d e f r h => ?_)
  obtain ⟨seen, w, m, rfl, rfl, rfl, hs, hz, T, hw, hm, rfl⟩ := h
  obtain ⟨L1, L2⟩ := shpT_wid (T := diagM m w) hs diagM_len diagM_wid
  let C := mkC g n_law_shape s_law_shape 33
  let E : O → O → O → List O := fun b v a => [.dat (lM seen), .dat (.int (w : Int)), .dat (.int m), b, v, a, .no, .no]
  have hml : (seen.map lV).length = seen.length := List.length_map _
  refine ⟨[none], SB.cons (E1 := E (.adr 0) .no .no) (M1 := [cel (diagM m w)]) (ST.to (LC.set 3 (LC.lRSC 6 (j := (w : Int)) (v := fun k => lV ((List.range w).map fun (j : Nat) => m * (if (k : Int) = (j : Int) then 1 else 0))) (M_ := fun _ => []) (own := [("k", 6)]) (by rfl) c_law_shape.nd rfl (EV.nm 1) W.b.range rfl (fun _ _ => rfl) (by omega) (fun k hk c => ?_)) rfl rfl (fun env he => sw_true (by rw [he]; rfl) (by rw [he]; rfl) (by rfl) (by rfl))) ?_) ?_⟩
  · refine EV.to (LC.ev (LC.lR 7 (j := (w : Int)) (g := fun j => .int (m * (if (k : Int) = (j : Int) then 1 else 0))) (own := [("j", 7)]) (by rfl) c_law_shape.nd rfl (EV.nm 1) W.b.range (Nat.le_refl _) OkM.refl (by omega) (fun j hj M => ?_))) (by rw [Int.toNat_natCast, lV_map])
    refine EV.to (EV.mulL (EV.nm 2) (EV.intB (EV.cm (EV.nm 6) (EV.nm 7) CS.eqI) W.b.int) (by omega)) ?_
    by_cases h : (k : Int) = (j : Int)
    · rw [if_pos h, decide_eq_true h]
      rfl
    · rw [if_neg h, decide_eq_false h]
      rfl
  · show Out.nx _ [some (((List.range ((w : Int)).toNat).map _).map O.dat)] = Out.nx _ [some (((diagM m w).map lV).map O.dat)]
    unfold diagM
    rw [Int.toNat_natCast, List.map_map, List.map_map, List.map_map]
    rfl
  refine SB.cons (E1 := E (.adr 0) .no .no) (M1 := [cel (shpT m w seen)]) (ST.to (ST.forN 4 (n := seen.length) (E_ := fun _ => E (.adr 0) .no .no) (M_ := fun i => [cel ((seen.take i).foldl (shp1 w) (diagM m w))]) (hml ▸ EI.seq (ds := seen.map lV) (EV.nm 0) rfl) Fg.refl rfl (fun _ _ => True.intro) c_law_shape.nd (fun i hi => ?_)) (by rw [List.take_length]; rfl)) ?_
  · rw [row_lV hi, shp_take hi]
    have hq := hs _ (mem_getD hi : seen.getD i [] ∈ seen)
    obtain ⟨K1, K2⟩ := shpT_wid (seen := seen.take i) (T := diagM m w) (fun u hu => hs u (List.mem_of_mem_take hu)) diagM_len diagM_wid
    generalize (seen.take i).foldl (shp1 w) (diagM m w) = U at K1 K2
    generalize seen.getD i [] = v at hq
    have hle : headF v ≤ w := by
      unfold headF
      cases hl : leadF v with
      | none => exact Nat.le_of_eq hq
      | some p => exact Nat.le_of_lt (hq ▸ (leadF_lt hl).1)
    unfold shp1
    generalize hat : headF v = at_ at hle
    have rowA : ∀ {e : Expr} {E2 : List O} {p p2 : Pos}, E2[3]? = some (.adr 0) → at_ < w → EV C e E2 [cel U] (.dat (.int (at_ : Int))) [cel U] → PlainIx e → EV C (.Subscript (.Name "best" p) e p2) E2 [cel U] (.dat (lV (U.getD at_ []))) [cel U] := fun h0 h1 h2 h3 => EV.ixC (n := 0) (EV.nm 3 (h := h0)) h2 rfl (cel_row (by omega)) h3
    have F1 : Fg (E (.adr 0) (.dat (lV v)) (.dat (.int (at_ : Int)))) (E (.adr 0) .no .no) := Fg.cons (Fg.cons (Fg.cons (Fg.cons (Fg.no (Fg.no Fg.refl)))))
    refine ⟨_, F1, SB.cons (E1 := E (.adr 0) (.dat (lV v)) (.dat (.int (at_ : Int)))) (M1 := [cel U]) (ST.set 5 (EV.to (EV.c1 (ok_law_first W) (EV.nm 4) ⟨v, rfl, by omega, rfl⟩) ?_) c_law_shape.nd) (SB.one ?_)⟩
    · rw [hat]
    · by_cases h1 : at_ < w
      · have tst : ∀ {y : Bool}, decide (v.getD at_ 0 < gE U at_ at_) = y → ET C (testOf ((bodyOf ((defBody s_law_shape).getD 1 (.Pass ⟨0, 0, 0, 0⟩))).getD 1 (.Pass ⟨0, 0, 0, 0⟩))) (E (.adr 0) (.dat (lV v)) (.dat (.int (at_ : Int)))) [cel U] y [cel U] := fun {y} hy => ET.to (EW.et (EW.and (k1 := true) (k2 := decide (v.getD at_ 0 < gE U at_ at_)) (ET.to (ET.cm (EV.nm 5) (EV.nm 1) CS.ltI) (decide_eq_true (by omega))) (fun _ => EW.and1 (ET.cm (EV.ix (EV.nm 4) (EV.nm 5) (ix_lV (by omega))) (EV.ix (rowA rfl h1 (EV.nm 5) (fun _ _ => rfl)) (EV.nm 5) (ix_lV (by rw [K2 _ (mem_getD (by omega))]; exact h1))) CS.ltI)) (fun z => nomatch z))) hy
        by_cases h2 : v.getD at_ 0 < gE U at_ at_
        · rw [if_pos ⟨h1, h2⟩]
          refine ST.yes (tst (decide_eq_true h2)) (SB.one (ST.to (ST.asg (EV.list (EV.nm 4) rfl W.b.list) (EG.sub (n := 0) (jj := at_) (ps := (U.map lV).map O.dat) (EV.nm 3) (EV.nm 5) rfl (by rw [List.length_map, List.length_map, K1]; exact ixN_of h1))) ?_))
          show Out.nx _ [some _] = Out.nx _ [some _]
          rw [List.map_set, List.map_set]
        · rw [if_neg (fun z => h2 z.2)]
          exact ST.no (tst (decide_eq_false h2)) SB.nil
      · rw [if_neg (fun z => h1 z.1)]
        exact ST.no (ET.to (EW.et (EW.and (k1 := false) (k2 := false) (ET.to (ET.cm (EV.nm 5) (EV.nm 1) CS.ltI) (decide_eq_false (by omega))) (fun z => nomatch z) (fun _ => rfl))) rfl) SB.nil
  · exact SB.fz (jj := 3) (nn := 0) (ds := (shpT m w seen).map lV) rfl rfl (SB.one (ST.ret (EV.to (EV.c1 (ok_law_tidied W) (EV.nm 3) ⟨_, w, sq_l, T, rfl⟩) (by unfold shpT; rw [L1]))))
end
end
section
/-! ### ones on the slant -/
section
theorem EV_toM {C : Cc} {e : Expr} {E : List O} {M M' M2 : Mem} {o : O} (h : EV C e E M o M') (q : M' = M2) : EV C e E M o M2 := q ▸ h
theorem SB_ret_to {C : Cc} {sts : List Stmt} {E : List O} {M M' M2 : Mem} {o o2 : O} (h : SB C sts E M (.rt o M')) (q1 : o = o2) (q2 : M' = M2) : SB C sts E M (.rt o2 M2) := q1 ▸ q2 ▸ h
/-- [elt for x in range(n)], each element a new cell of numbers -/
theorem LC.lNestR {C : Cc} {E : List O} {M : Mem} {elt a : Expr} {p : Pos} {x : Str} {scope : Scope} {own : List (Str × Nat)} (jx : Nat) {y : Str} {q qs : Pos} {pre : Mem} {n : Nat} (r : Nat → List Int) (ok : blkC C.N C.sc scope own = true) (nd : C.N.Nodup) (ho : own.map (·.2) = [jx]) (h : EV C a E M (.dat (.int (n : Int))) pre) (hm : Bt C.g "range") (hz : n < 100000)
    (step : ∀ i, i < n → ∀ M, EV (C.blk scope) elt ((wipeE E [jx]).set jx (.dat (.int (i : Int)))) M (.adr M.length) (M ++ [rowC (r i)])) (hy : y = "range" := by rfl) (hg : C.sc.names.lookup y = some .globalImplicit := by rfl) (hs : ∀ env, starEach [a] env = [(false, eval a env)] := by intro _; rfl)
    (hi : C.N[jx]? = some x := by rfl) (hx : Loc (C.blk scope).sc x := by first | exact Or.inl rfl | exact Or.inr rfl) (hf' : (C.blk scope).fn x = true ∨ (C.blk scope).sc.names.lookup x = some .local := by first | exact .inl rfl | exact .inr rfl)
    (hf : ∀ env x, foldedSetIterable (.Call (.Name y q) [a] [] qs) env x = pure x := by intro _ _; rfl) : LC C elt (.Name x p) (.Call (.Name y q) [a] [] qs) [] scope own E M (.adr pre.length) (pre ++ matC pre.length ((List.range n).map r)) := by
  have key := LC.gen (C := C) (E := E) (tg := .Name x p) (elt := elt) (ifs := []) (scope := scope) (own := own) (M := M) (M1 := pre) (A := fun k => pre ++ matC pre.length ((List.range k).map r)) (acc := fun k => (List.range k).map fun q => .adr (pre.length + 1 + q)) ok nd (EI.rng1 (x := y) (p := q) (pos := qs) (j := (n : Int)) h hm (by omega) hy hg hs) rfl rfl (fun _ _ => True.intro) (fun i hi' => by
    rw [Int.toNat_natCast] at hi'
    have hl : ((List.range i).map r).length = i := by rw [List.length_map, List.length_range]
    have hml : (pre ++ matC pre.length ((List.range i).map r)).length = pre.length + 1 + i := by rw [List.length_append, matC_len, hl]; omega
    refine ⟨_, _, true, _, EGv.nm jx nd (by rw [ho]; simp) hi hx hf', EP.nil, .inl ⟨rfl, .adr (pre.length + 1 + i), pre ++ matC pre.length ((List.range i).map r) ++ [rowC (r i)], ?_, ?_, ?_, ?_, ?_⟩⟩
    · rw [ho, atI0_eq, ← hml]
      exact step _ hi' _
    · rw [mat_top rfl, hl]
    · rw [List.length_map, List.length_range]; omega
    · have := mat_app (pre := pre) (m := (List.range i).map r) (r := r i)
      rw [hl] at this
      rw [this, List.range_succ, List.map_append]
      rfl
    · rw [List.range_succ, List.map_append]
      rfl) hf
  rw [Int.toNat_natCast] at key
  exact key
end
section
variable {g : Pg}
def idR (n k : Nat) : List Int := (List.range n).map fun (j : Nat) => if (k : Int) = (j : Int) then 1 else 0
def idM (n : Nat) : List (List Int) := (List.range n).map (idR n)
theorem idM_len {n : Nat} : (idM n).length = n := by
  unfold idM
  rw [List.length_map, List.length_range]
theorem idM_wid {n : Nat} : ∀ q ∈ idM n, q.length = n := fun q hq => by
  obtain ⟨k, _, rfl⟩ := List.mem_map.mp hq
  unfold idR
  rw [List.length_map, List.length_range]
theorem ident_elt {k : Nat} (W : Wd g) (j : Nat) {C : Cc} {E : List O} {M : Mem} {p p1 p2 p3 p4 : Pos} (hC : C.g = g) (h1 : EV C (.Name "k" p1) E M (.dat (.int (k : Int))) M) (h2 : EV C (.Name "j" p2) E M (.dat (.int (j : Int))) M) (hg : C.sc.names.lookup ("int" : Str) = some .globalImplicit) :
    EV C (.Call (.Name "int" p3) [.Compare (.Name "k" p1) [.Eq] [.Name "j" p2] p4] [] p) E M (.dat (.int (if (k : Int) = (j : Int) then 1 else 0))) M := by
  subst hC
  refine EV.to (EV.intB (EV.cm h1 h2 CS.eqI) W.b.int rfl hg) ?_
  by_cases h : (k : Int) = (j : Int)
  · rw [if_pos h, decide_eq_true h]
    rfl
  · rw [if_neg h, decide_eq_false h]
    rfl
theorem ok_ident_rows (W : Wd g) : FN g "_law_identity" 1 (fun os M o M' => ∃ n : Nat, n < 1000 ∧ os = [.dat (.int (n : Int))] ∧ M = [] ∧ o = .adr 0 ∧ M' = [cel (idM n)]) := by
  refine FN.mk W.t_law_identity c_law_identity (fun _ _ _ _ _ _ us hl => match us, hl with | [_], _ => rfl) (fun os M o M' h => by obtain ⟨n, _, rfl, _⟩ := h; rfl) (fun os M o M' h => ?_)
  obtain ⟨n, hn, rfl, rfl, rfl, rfl⟩ := h
  refine SB_ret_to (SB.one (ST.ret (LC.ev (LC.lRSC 1 (j := (n : Int)) (v := fun k => lV (idR n k)) (M_ := fun _ => []) (own := [("k", 1)]) (by rfl) c_law_identity.nd rfl (EV.nm 0) W.b.range rfl (fun _ _ => rfl) (by omega) (fun k hk c => ?_))))) rfl ?_
  · refine EV.to (LC.ev (LC.lR 2 (j := (n : Int)) (g := fun j => .int (if (k : Int) = (j : Int) then 1 else 0)) (own := [("j", 2)]) (by rfl) c_law_identity.nd rfl (EV.nm 0) W.b.range (Nat.le_refl _) OkM.refl (by omega) (fun j hj M => ident_elt W j rfl (EV.nm 1) (EV.nm 2) rfl))) ?_
    rw [Int.toNat_natCast, lV_map]
    rfl
  · show [some (((List.range ((n : Int)).toNat).map fun k => lV (idR n k)).map O.dat)] = [some (((idM n).map lV).map O.dat)]
    rw [Int.toNat_natCast]
    unfold idM
    rw [List.map_map, List.map_map, List.map_map]
    rfl
theorem ok_ident_cells (W : Wd g) : FN g "_law_identity" 1 (fun os M o M' => ∃ n : Nat, n < 1000 ∧ os = [.dat (.int (n : Int))] ∧ M = [] ∧ o = .adr 0 ∧ M' = matC 0 (idM n)) := by
  refine FN.mk W.t_law_identity c_law_identity (fun _ _ _ _ _ _ us hl => match us, hl with | [_], _ => rfl) (fun os M o M' h => by obtain ⟨n, _, rfl, _⟩ := h; rfl) (fun os M o M' h => ?_)
  obtain ⟨n, hn, rfl, rfl, rfl, rfl⟩ := h
  refine SB_ret_to (SB.one (ST.ret (LC.ev (LC.lNestR (pre := []) (n := n) 1 (idR n) (own := [("k", 1)]) (by rfl) c_law_identity.nd rfl (EV.nm 0) W.b.range (by omega) (fun k hk M => ?_))))) rfl rfl
  refine EV_toM (LC.ev (LC.lRSC 2 (j := (n : Int)) (v := fun j => .int (if (k : Int) = (j : Int) then 1 else 0)) (M_ := fun _ => M) (own := [("j", 2)]) (by rfl) c_law_identity.nd rfl (EV.nm 0) W.b.range rfl (fun _ _ => rfl) (by omega) (fun j hj c => ident_elt W j rfl (EV.nm 1) (EV.nm 2) rfl))) ?_
  show M ++ [some (((List.range ((n : Int)).toNat).map _).map O.dat)] = M ++ [some (((idR n k).map D.int).map O.dat)]
  rw [Int.toNat_natCast]
  unfold idR
  rw [List.map_map, List.map_map, List.map_map]
  rfl
end
end
section
/-! ### rows turned -/
section
theorem max_ex : ∀ {ns : List Int}, ns ≠ [] → ∃ m ∈ ns, ∀ y ∈ ns, y ≤ m
  | [], h => absurd rfl h
  | [a], _ => ⟨a, List.mem_singleton_self a, fun y hy => by rw [List.mem_singleton.mp hy]; exact Int.le_refl _⟩
  | a :: b :: l, _ => by
    obtain ⟨m, h1, h2⟩ := max_ex (ns := b :: l) (by simp)
    by_cases h : a ≤ m
    · refine ⟨m, List.mem_cons_of_mem _ h1, fun y hy => ?_⟩
      rcases List.mem_cons.mp hy with rfl | hy
      · exact h
      · exact h2 y hy
    · refine ⟨a, List.mem_cons_self, fun y hy => ?_⟩
      rcases List.mem_cons.mp hy with rfl | hy
      · exact Int.le_refl _
      · have := h2 y hy
        omega
structure TS where
  s : SS
  o : List (List Int)
  t : List (List Int)
  b : List (List Int)
structure TI (rows : List (List Int)) (n w : Nat) (lim : Int) (x : TS) : Prop where
  gd : Gd x.s
  ol : x.o.length = n
  ow : ∀ q ∈ x.o, q.length = w
  ob : ∀ q ∈ x.o, ∀ y ∈ q, (y.natAbs : Int) ≤ lim
  s1 : Sub x.o rows
  s2 : Sub rows x.o
  tl : x.t.length = n
  tw : ∀ q ∈ x.t, q.length = n
  bl : x.b.length = n
  bw : ∀ q ∈ x.b, q.length = n
def TM (x : TS) : Mem := MS x.s ++ (cel x.o :: cel x.t :: matC 4 x.b)
theorem TM_o {x : TS} {i : Nat} {r : List Int} : (TM x).set 2 (some (((x.o.map lV).map O.dat).set i (.dat (lV r)))) = TM { x with o := x.o.set i r } := by
  show _ :: _ :: (some _) :: _ = _ :: _ :: (some _) :: _
  rw [List.map_set, List.map_set]
theorem TM_t {x : TS} {i : Nat} {r : List Int} : (TM x).set 3 (some (((x.t.map lV).map O.dat).set i (.dat (lV r)))) = TM { x with t := x.t.set i r } := by
  show _ :: _ :: _ :: (some _) :: _ = _ :: _ :: _ :: (some _) :: _
  rw [List.map_set, List.map_set]
theorem TM_pre (x : TS) : TM x = (MS x.s ++ [cel x.o, cel x.t]) ++ matC 4 x.b ++ [] := by
  rw [List.append_nil, List.append_assoc]
  rfl
theorem TM_top {x : TS} : (TM x)[4]? = some (some ((List.range x.b.length).map fun i => .adr (4 + 1 + i))) := by
  rw [TM_pre]
  exact mat_top rfl
theorem TM_get {x : TS} {k : Nat} (h : k < x.b.length) : (TM x)[4 + 1 + k]? = some (rowC (x.b.getD k [])) := by
  rw [TM_pre]
  exact mat_get rfl h
theorem TM_set {x : TS} {k : Nat} {r : List Int} (h : k < x.b.length) : (TM x).set (4 + 1 + k) (rowC r) = TM { x with b := x.b.set k r } := by
  rw [TM_pre, TM_pre]
  exact mat_set rfl h
def bk (f : List Int → List Int) (b : List (List Int)) : Nat → List (List Int)
  | 0 => b
  | k + 1 => (bk f b k).set k (f ((bk f b k).getD k []))
theorem bk_len {f : List Int → List Int} {b : List (List Int)} : ∀ k, (bk f b k).length = b.length
  | 0 => rfl
  | k + 1 => by
    show (List.set _ _ _).length = _
    rw [List.length_set, bk_len k]
theorem bk_wid {f : List Int → List Int} {b : List (List Int)} {n : Nat} (h : ∀ q ∈ b, q.length = n) (hf : ∀ q, q.length = n → (f q).length = n) : ∀ k, k ≤ b.length → ∀ q ∈ bk f b k, q.length = n
  | 0, _ => h
  | k + 1, hk => fun q hq => by
    have ih := bk_wid h hf k (by omega)
    rcases List.mem_or_eq_of_mem_set hq with hq | rfl
    · exact ih q hq
    · exact hf _ (ih _ (mem_getD (by rw [bk_len]; omega)))
theorem ST.backFor {C : Cc} {E : List O} {x : TS} {f : List Int → List Int} {st : Stmt} {p p1 p2 : Pos} (nd : C.N.Nodup) (hN : C.N[11]? = some ("row" : Str)) (hB : C.N[6]? = some ("back" : Str)) (hE : E[6]? = some (.adr 4)) (h11 : E[11]? = some .no)
    (hv : Vis C.sc ("back" : Str)) (hl : Loc C.sc ("row" : Str)) (hfn : C.fn ("row" : Str) = true ∨ C.sc.names.lookup ("row" : Str) = some .local) (hw : ∀ k, k < x.b.length → ((bk f x.b k).getD k []).length = x.b.length)
    (step : ∀ k, k < x.b.length → ∀ y : TS, y.b.length = x.b.length → y = { x with b := bk f x.b k } → ST C st (E.set 11 (.adr (4 + 1 + k))) (TM y) (.nx (E.set 11 (.adr (4 + 1 + k))) ((TM y).set (4 + 1 + k) (rowC (f (y.b.getD k [])))))) (h0 : E.length = 15) :
    ST C (.For (.Name "row" p) (.Name "back" p1) [st] [] p2) E (TM x) (.nx E (TM { x with b := bk f x.b x.b.length })) := by
  have key := ST.forN (C := C) (p := p) (x := ("row" : Str)) (iter := .Name "back" p1) (pos := p2) (hi := hN) (hx := hl) (hf' := hfn) (body := [st]) 11 (n := x.b.length) (E := E) (M := TM x) (E_ := fun _ => E) (M_ := fun k => TM { x with b := bk f x.b k }) (adr_len (n := x.b.length) (b := 4 + 1) ▸ EI.cell (n := 4) (EV.nm 6 hB hE (by intro z; cases z) hv) TM_top) Fg.refl rfl (fun k hk => by
    have := TM_top (x := { x with b := bk f x.b k })
    rw [show ({ x with b := bk f x.b k } : TS).b.length = x.b.length from bk_len k] at this
    exact this) nd (fun k hk => by
      have hk2 : k < (bk f x.b k).length := by rw [bk_len]; exact hk
      have e : ((List.range x.b.length).map fun i => O.adr (4 + 1 + i)).getD k .no = .adr (4 + 1 + k) := by
        rw [List.getD_eq_getElem?_getD, List.getElem?_map, List.getElem?_range hk]
        rfl
      rw [e]
      refine ⟨E.set 11 (.adr (4 + 1 + k)), ?_, SB.one (ST.to (step k hk _ (bk_len k) rfl) ?_)⟩
      · refine ⟨by rw [List.length_set], fun i o hi => ?_⟩
        by_cases h : i = 11
        · subst h
          rw [h11] at hi
          exact .inl (Option.some.inj hi).symm
        · rw [List.getElem?_set_ne (fun z => h z.symm)]
          exact .inr hi
      · rw [TM_set hk2]
        rfl)
  exact key
end
def elseOf : Stmt → List Stmt
  | .If _ _ ns _ => ns
  | _ => []
section
variable {g : Pg}
def negR (r : List Int) : List Int := r.map fun y => 0 - y
theorem negR_eq {r : List Int} : negR r = r.map fun x => -x := by
  unfold negR
  simp
theorem negR_len {r : List Int} : (negR r).length = r.length := List.length_map _
theorem neg_set {l : List (List Int)} {i : Nat} : l.set i (negR (l.getD i [])) = negL l i := by
  unfold negL
  rw [negR_eq]
abbrev tuB : List Stmt := defBody s_law_turned
abbrev tuC (g : Pg) : Cc := mkC g n_law_turned s_law_turned 1
abbrev tuE (d : D) (ct lim : Int) (st i j mn rw nw : O) : List O := [.adr 1, .dat d, .dat (.int ct), .dat (.int lim), .adr 2, .adr 3, .adr 4, st, i, j, mn, rw, nw, .no, .no]
theorem wid_set {l : List (List Int)} {n i : Nat} {r : List Int} (h : ∀ q ∈ l, q.length = n) (hr : r.length = n) : ∀ q ∈ l.set i r, q.length = n := fun q hq => by
  rcases List.mem_or_eq_of_mem_set hq with hq | rfl
  · exact h q hq
  · exact hr
theorem turn_do (W : Wd g) {rows : List (List Int)} {n w : Nat} {lim ct : Int} {d : D} {x : TS} (hn2 : n < 1000) (hw : 0 < w) (hw2 : w < 1000) (I : TI rows n w lim x) {i j : Nat} {q : Int} (hi : i < n) (hj : j < n) (hq : q.natAbs ≤ 2) (st : O) :
    ∃ x', (∃ E2, Fg E2 (tuE d ct lim .no .no .no .no .no .no) ∧ ST (tuC g) ((bodyOf (tuB.getD 3 (.Pass ⟨0, 0, 0, 0⟩))).getD 3 (.Pass ⟨0, 0, 0, 0⟩)) (tuE d ct lim st (.dat (.int (i : Int))) (.dat (.int (j : Int))) (.dat (.int q)) .no .no) (TM x) (.nx E2 (TM x'))) ∧ TI rows n w lim x' := by
  let E : O → O → List O := fun rw nw => tuE d ct lim st (.dat (.int (i : Int))) (.dat (.int (j : Int))) (.dat (.int q)) rw nw
  have hF : ∀ nw, Fg (E .no nw) (tuE d ct lim .no .no .no .no .no .no) := fun nw => Fg.cons (Fg.cons (Fg.cons (Fg.cons (Fg.cons (Fg.cons (Fg.cons (Fg.no (Fg.no (Fg.no (Fg.no (Fg.no (Fg.no Fg.refl))))))))))))
  have rowO : ∀ {y : TS} {e : Expr} {E2 : List O} {i : Nat} {p p2 : Pos}, E2[4]? = some (.adr 2) → i < y.o.length → EV (tuC g) e E2 (TM y) (.dat (.int (i : Int))) (TM y) → PlainIx e → EV (tuC g) (.Subscript (.Name "out" p) e p2) E2 (TM y) (.dat (lV (y.o.getD i []))) (TM y) := fun h0 h1 h2 h3 => EV.ixC (n := 2) (EV.nm 4 (h := h0)) h2 rfl (cel_row h1) h3
  have rowT : ∀ {y : TS} {e : Expr} {E2 : List O} {i : Nat} {p p2 : Pos}, E2[5]? = some (.adr 3) → i < y.t.length → EV (tuC g) e E2 (TM y) (.dat (.int (i : Int))) (TM y) → PlainIx e → EV (tuC g) (.Subscript (.Name "there" p) e p2) E2 (TM y) (.dat (lV (y.t.getD i []))) (TM y) := fun h0 h1 h2 h3 => EV.ixC (n := 3) (EV.nm 5 (h := h0)) h2 rfl (cel_row h1) h3
  have hio : i < x.o.length := by rw [I.ol]; exact hi
  have hjo : j < x.o.length := by rw [I.ol]; exact hj
  have hit : i < x.t.length := by rw [I.tl]; exact hi
  have hjt : j < x.t.length := by rw [I.tl]; exact hj
  have li := I.ow _ (mem_getD hio : x.o.getD i [] ∈ x.o)
  have lj := I.ow _ (mem_getD hjo : x.o.getD j [] ∈ x.o)
  have ti := I.tw _ (mem_getD hit : x.t.getD i [] ∈ x.t)
  have tj := I.tw _ (mem_getD hjt : x.t.getD j [] ∈ x.t)
  by_cases hij : i = j
  · let f : List Int → List Int := fun r => r.set i (0 - r.getD i 0)
    have fl : ∀ r : List Int, r.length = n → (f r).length = n := fun r hr => by rw [← hr]; exact List.length_set
    let x1 : TS := { x with o := negL x.o i }
    let x2 : TS := { x1 with t := x.t.set i (negR (x.t.getD i [])) }
    refine ⟨{ x2 with b := bk f x.b x.b.length }, ⟨E .no .no, hF _, ST.yes (ET.to (ET.cm (EV.nm 8) (EV.nm 9) CS.eqI) (decide_eq_true (by omega))) ?_⟩, ?_⟩
    · refine SB.cons (E1 := E .no .no) (M1 := TM x1) (ST.to (ST.asg (M1 := TM x) (EV.to (o' := .dat (lV (negR (x.o.getD i [])))) (LC.ev (LC.lM 13 (xs := x.o.getD i []) (f := D.int) (g := fun y => .int (0 - y)) (own := [("x", 13)]) (by rfl) c_law_turned.nd rfl (rowO rfl hio (EV.nm 8) (fun _ _ => rfl)) rfl (Nat.le_refl _) OkM.refl (by omega) (fun y hy M => EV.sub EV.int (EV.nm 13)))) (by rw [lV_map]; rfl)) (EG.sub (n := 2) (jj := i) (ps := (x.o.map lV).map O.dat) (EV.nm 4) (EV.nm 8) rfl (by rw [List.length_map, List.length_map]; exact ixN_of hio))) (congrArg (Out.nx _) (by rw [TM_o, neg_set]))) ?_
      refine SB.cons (E1 := E .no .no) (M1 := TM x2) (ST.to (ST.asg (M1 := TM x1) (EV.to (o' := .dat (lV (negR (x.t.getD i [])))) (LC.ev (LC.lM 13 (xs := x.t.getD i []) (f := D.int) (g := fun y => .int (0 - y)) (own := [("x", 13)]) (by rfl) c_law_turned.nd rfl (rowT (y := x1) rfl hit (EV.nm 8) (fun _ _ => rfl)) rfl (Nat.le_refl _) OkM.refl (by omega) (fun y hy M => EV.sub EV.int (EV.nm 13)))) (by rw [lV_map]; rfl)) (EG.sub (n := 3) (jj := i) (ps := (x.t.map lV).map O.dat) (EV.nm 5) (EV.nm 8) rfl (by rw [List.length_map, List.length_map]; exact ixN_of hit))) (congrArg (Out.nx _) (TM_t (x := x1)))) ?_
      refine SB.one (ST.backFor (x := x2) (f := f) c_law_turned.nd rfl rfl rfl rfl (by first | exact Or.inl rfl | exact Or.inr (Or.inl rfl) | exact Or.inr (Or.inr rfl)) (by first | exact Or.inl rfl | exact Or.inr rfl) (by first | exact .inl rfl | exact .inr rfl) (fun k hk => ?_) (fun k hk y hyl hy => ?_) rfl)
      · show ((bk f x.b k).getD k []).length = x.b.length
        rw [bk_wid I.bw fl k (Nat.le_of_lt hk) _ (mem_getD (by rw [bk_len]; exact hk)), I.bl]
      · have hk' : k < y.b.length := by rw [hyl]; exact hk
        have hyw : (y.b.getD k []).length = n := by
          rw [hy]
          exact bk_wid I.bw fl k (Nat.le_of_lt hk) _ (mem_getD (by rw [bk_len]; exact hk))
        exact ST.to (ST.asg (EV.sub EV.int (EV.ixC (n := 4 + 1 + k) (EV.nm 11) (EV.nm 8) (TM_get hk') (row_at (by omega)))) (EG.sub (n := 4 + 1 + k) (jj := i) (ps := ((y.b.getD k []).map D.int).map O.dat) (EV.nm 11) (EV.nm 8) (TM_get hk') (by rw [row_len]; exact ixN_of (by omega)))) (congrArg (fun c => Out.nx _ ((TM y).set _ c)) row_set)
    · have s := sub_neg hio
      refine ⟨I.gd, by show (negL x.o i).length = n; rw [neg_len, I.ol], ?_, ?_, s.1.trans I.s1, I.s2.trans s.2, by show (List.set _ _ _).length = n; rw [List.length_set, I.tl], ?_, by show (bk f x.b _).length = n; rw [bk_len, I.bl], ?_⟩
      · show ∀ r ∈ negL x.o i, r.length = w
        rw [← neg_set]
        exact wid_set I.ow (by rw [negR_len, li])
      · show ∀ r ∈ negL x.o i, ∀ y ∈ r, (y.natAbs : Int) ≤ lim
        rw [← neg_set]
        intro r hr y hy
        rcases List.mem_or_eq_of_mem_set hr with hr | rfl
        · exact I.ob r hr y hy
        · obtain ⟨z, hz, rfl⟩ := List.mem_map.mp hy
          have := I.ob _ (mem_getD hio : x.o.getD i [] ∈ x.o) z hz
          omega
      · exact wid_set I.tw (by rw [negR_len, ti])
      · exact bk_wid I.bw fl _ (Nat.le_refl _)
  · let f : List Int → List Int := fun r => r.set j (r.getD j 0 - q * r.getD i 0)
    have fl : ∀ r : List Int, r.length = n → (f r).length = n := fun r hr => by rw [← hr]; exact List.length_set
    let nw : List Int := lessV (x.o.getD i []) (-q) (x.o.getD j [])
    have nwl : nw.length = w := by rw [lessV_ln (by omega), li]
    have nwr : (List.range w).map (fun k => (x.o.getD i []).getD k 0 + q * (x.o.getD j []).getD k 0) = nw := by
      have := lessV_rng (v := x.o.getD i []) (w := x.o.getD j []) (k := -q) (by omega)
      rw [li] at this
      exact (List.map_congr_left fun k _ => by rw [Int.neg_mul]; omega).trans this
    obtain ⟨m, m1, m2⟩ := max_ex (ns := nw.map fun y => (y.natAbs : Int)) (fun z => by have := congrArg List.length z; rw [List.length_map, nwl] at this; simp at this; omega)
    have pre : ∀ {r : Out}, SB (tuC g) ((elseOf ((bodyOf (tuB.getD 3 (.Pass ⟨0, 0, 0, 0⟩))).getD 3 (.Pass ⟨0, 0, 0, 0⟩))).drop 1) (E .no (.dat (lV nw))) (TM x) r → ST (tuC g) ((bodyOf (tuB.getD 3 (.Pass ⟨0, 0, 0, 0⟩))).getD 3 (.Pass ⟨0, 0, 0, 0⟩)) (E .no .no) (TM x) r := fun {r} h => by
      refine ST.no (ET.to (ET.cm (EV.nm 8) (EV.nm 9) CS.eqI) (decide_eq_false (by omega))) (SB.cons (E1 := E .no (.dat (lV nw))) (M1 := TM x) (ST.to (LC.set 12 (LC.lRS 14 (j := (w : Int)) (v := fun k => .int ((x.o.getD i []).getD k 0 + q * (x.o.getD j []).getD k 0)) (M_ := fun _ => TM x) (own := [("k", 14)]) (by rfl) c_law_turned.nd rfl (EV.to (EV.len (rowO rfl hio (EV.nm 8) (fun _ _ => rfl)) len_lV W.b.len) (by rw [li])) W.b.range rfl (fun _ _ => rfl) (Nat.le_refl _) OkM.refl (by omega) (fun k hk c => ?_)) rfl rfl (fun env he => sw_true (by rw [he]; rfl) (by rw [he]; rfl) (by rfl) (by rfl))) ?_) h)
      · have hk' : k < w := by omega
        have rowB : ∀ {e : Expr} {i : Nat} {E2 : List O} {p p2 : Pos} {sc : Scope}, i < x.o.length → EV ((tuC g).blk sc) e E2 (TM x ++ [c]) (.dat (.int (i : Int))) (TM x ++ [c]) → EV ((tuC g).blk sc) (.Name "out" p) E2 (TM x ++ [c]) (.adr 2) (TM x ++ [c]) → PlainIx e → EV ((tuC g).blk sc) (.Subscript (.Name "out" p) e p2) E2 (TM x ++ [c]) (.dat (lV (x.o.getD i []))) (TM x ++ [c]) := fun h1 h2 h0 h3 => EV.ixC (n := 2) h0 h2 rfl (cel_row h1) h3
        exact EV.add (EV.ix (rowB hio (EV.nm 8) (EV.nm 4) (fun _ _ => rfl)) (EV.nm 14) (ix_lV (by omega))) (EV.mulL (EV.nm 10) (EV.ix (rowB hjo (EV.nm 9) (EV.nm 4) (fun _ _ => rfl)) (EV.nm 14) (ix_lV (by omega))) (by omega))
      · rw [Int.toNat_natCast, lV_map, nwr]
        rfl
    have test : ET (tuC g) (ifOf ((elseOf ((bodyOf (tuB.getD 3 (.Pass ⟨0, 0, 0, 0⟩))).getD 3 (.Pass ⟨0, 0, 0, 0⟩))).getD 1 (.Pass ⟨0, 0, 0, 0⟩))) (E .no (.dat (lV nw))) (TM x) (decide (m ≤ lim)) (TM x) := by
      refine ET.cm (EV.maxL (ns := nw.map fun y => (y.natAbs : Int)) (EV.to (LC.ev (LC.lM 13 (xs := nw) (f := D.int) (g := fun y => .int (y.natAbs : Int)) (own := [("x", 13)]) (by rfl) c_law_turned.nd rfl (EV.nm 12) rfl (Nat.le_refl _) OkM.refl (by omega) (fun y hy M => EV.abs (EV.nm 13) W.b.abs))) (by rw [List.map_map]; rfl)) m1 m2 W.b.max) (EV.nm 3) CS.leI
    by_cases hm : m ≤ lim
    · let x1 : TS := { x with o := x.o.set i nw }
      let nt : List Int := lessV (x.t.getD i []) (-q) (x.t.getD j [])
      have ntl : nt.length = n := by rw [lessV_ln (by omega), ti]
      have ntr : (List.range n).map (fun k => (x.t.getD i []).getD k 0 + q * (x.t.getD j []).getD k 0) = nt := by
        have := lessV_rng (v := x.t.getD i []) (w := x.t.getD j []) (k := -q) (by omega)
        rw [ti] at this
        exact (List.map_congr_left fun k _ => by rw [Int.neg_mul]; omega).trans this
      let x2 : TS := { x1 with t := x.t.set i nt }
      refine ⟨{ x2 with b := bk f x.b x.b.length }, ⟨E .no (.dat (lV nw)), hF _, pre (SB.one (ST.yes (ET.to test (decide_eq_true hm)) ?_))⟩, ?_⟩
      · refine SB.cons (E1 := E .no (.dat (lV nw))) (M1 := TM x1) (ST.to (ST.asg (M1 := TM x) (EV.nm 12) (EG.sub (n := 2) (jj := i) (ps := (x.o.map lV).map O.dat) (EV.nm 4) (EV.nm 8) rfl (by rw [List.length_map, List.length_map]; exact ixN_of hio))) (congrArg (Out.nx _) TM_o)) ?_
        refine SB.cons (E1 := E .no (.dat (lV nw))) (M1 := TM x2) (ST.to (ST.asg (M1 := TM x1) (EV.to (o' := .dat (lV nt)) (LC.ev (LC.lRS 14 (j := (n : Int)) (v := fun k => .int ((x.t.getD i []).getD k 0 + q * (x.t.getD j []).getD k 0)) (M_ := fun _ => TM x1) (own := [("k", 14)]) (by rfl) c_law_turned.nd rfl (EV.to (EV.lenC (nn := 3) (ps := (x.t.map lV).map O.dat) (EV.nm 5) rfl W.b.len) (by rw [cel_len, I.tl])) W.b.range rfl (fun _ _ => rfl) (Nat.le_refl _) OkM.refl (by omega) (fun k hk c => ?_))) ?_) (EG.sub (n := 3) (jj := i) (ps := (x.t.map lV).map O.dat) (EV.nm 5) (EV.nm 8) rfl (by rw [List.length_map, List.length_map]; exact ixN_of hit))) (congrArg (Out.nx _) (TM_t (x := x1)))) ?_
        · have hk' : k < n := by omega
          have rowB : ∀ {e : Expr} {i : Nat} {E2 : List O} {p p2 : Pos} {sc : Scope}, i < x.t.length → EV ((tuC g).blk sc) e E2 (TM x1 ++ [c]) (.dat (.int (i : Int))) (TM x1 ++ [c]) → EV ((tuC g).blk sc) (.Name "there" p) E2 (TM x1 ++ [c]) (.adr 3) (TM x1 ++ [c]) → PlainIx e → EV ((tuC g).blk sc) (.Subscript (.Name "there" p) e p2) E2 (TM x1 ++ [c]) (.dat (lV (x.t.getD i []))) (TM x1 ++ [c]) := fun h1 h2 h0 h3 => EV.ixC (n := 3) h0 h2 rfl (cel_row h1) h3
          exact EV.add (EV.ix (rowB hit (EV.nm 8) (EV.nm 5) (fun _ _ => rfl)) (EV.nm 14) (ix_lV (by omega))) (EV.mulL (EV.nm 10) (EV.ix (rowB hjt (EV.nm 9) (EV.nm 5) (fun _ _ => rfl)) (EV.nm 14) (ix_lV (by omega))) (by omega))
        · rw [Int.toNat_natCast, lV_map, ntr]
        refine SB.one (ST.backFor (x := x2) (f := f) c_law_turned.nd rfl rfl rfl rfl (by first | exact Or.inl rfl | exact Or.inr (Or.inl rfl) | exact Or.inr (Or.inr rfl)) (by first | exact Or.inl rfl | exact Or.inr rfl) (by first | exact .inl rfl | exact .inr rfl) (fun k hk => ?_) (fun k hk y hyl hy => ?_) rfl)
        · show ((bk f x.b k).getD k []).length = x.b.length
          rw [bk_wid I.bw fl k (Nat.le_of_lt hk) _ (mem_getD (by rw [bk_len]; exact hk)), I.bl]
        · have hk' : k < y.b.length := by rw [hyl]; exact hk
          have hyw : (y.b.getD k []).length = n := by
            rw [hy]
            exact bk_wid I.bw fl k (Nat.le_of_lt hk) _ (mem_getD (by rw [bk_len]; exact hk))
          exact ST.to (ST.asg (EV.sub (EV.ixC (n := 4 + 1 + k) (EV.nm 11) (EV.nm 9) (TM_get hk') (row_at (by omega))) (EV.mulL (EV.nm 10) (EV.ixC (n := 4 + 1 + k) (EV.nm 11) (EV.nm 8) (TM_get hk') (row_at (by omega))) (by omega))) (EG.sub (n := 4 + 1 + k) (jj := j) (ps := ((y.b.getD k []).map D.int).map O.dat) (EV.nm 11) (EV.nm 9) (TM_get hk') (by rw [row_len]; exact ixN_of (by omega)))) (congrArg (fun c => Out.nx _ ((TM y).set _ c)) row_set)
      · have s := sub_take (k := -q) hio hjo hij I.ow
        refine ⟨I.gd, by show (List.set _ _ _).length = n; rw [List.length_set, I.ol], wid_set I.ow nwl, ?_, s.1.trans I.s1, I.s2.trans s.2, by show (List.set _ _ _).length = n; rw [List.length_set, I.tl], wid_set I.tw ntl, by show (bk f x.b _).length = n; rw [bk_len, I.bl], bk_wid I.bw fl _ (Nat.le_refl _)⟩
        intro r hr y hy
        rcases List.mem_or_eq_of_mem_set hr with hr | rfl
        · exact I.ob r hr y hy
        · have := m2 _ (List.mem_map_of_mem hy)
          omega
    · exact ⟨x, ⟨E .no (.dat (lV nw)), hF _, pre (SB.one (ST.no (ET.to test (decide_eq_false hm)) SB.nil))⟩, I⟩
end
end
section
/-! ### draws -/
section
variable {g : Pg}
theorem chain {S : Type} {P : Nat → S → S → Prop} {I : Nat → S → Prop} {n : Nat} (h : ∀ i, i < n → ∀ s, I i s → ∃ s', P i s s' ∧ I (i + 1) s') (s0 : S) (h0 : I 0 s0) : ∃ f : Nat → S, f 0 = s0 ∧ (∀ i, i ≤ n → I i (f i)) ∧ ∀ i, i < n → P i (f i) (f (i + 1)) := by
  induction n with
  | zero => exact ⟨fun _ => s0, rfl, fun i hi => by rw [Nat.le_zero.mp hi]; exact h0, fun i hi => absurd hi (Nat.not_lt_zero i)⟩
  | succ n ih =>
    obtain ⟨f, f0, f1, f2⟩ := ih fun i hi => h i (by omega)
    obtain ⟨s', p1, p2⟩ := h n (Nat.lt_succ_self n) (f n) (f1 n (Nat.le_refl n))
    refine ⟨fun i => if i ≤ n then f i else s', by show (if 0 ≤ n then f 0 else s') = s0; rw [if_pos (Nat.zero_le _)]; exact f0, fun i hi => ?_, fun i hi => ?_⟩
    · by_cases hin : i ≤ n
      · simp only [if_pos hin]
        exact f1 i hin
      · have : i = n + 1 := by omega
        subst this
        simp only [if_neg hin]
        exact p2
    · by_cases hin : i < n
      · simp only [if_pos (show i ≤ n by omega), if_pos (show i + 1 ≤ n by omega)]
        exact f2 i hin
      · have : i = n := by omega
        subst this
        simp only [if_pos (Nat.le_refl i), if_neg (show ¬ i + 1 ≤ i by omega)]
        exact p1
end
section
/-- a matrix of cells frozen -/
def mixF (b : Nat) (m : List (List Int)) (k : Nat) : List O := (List.range m.length).map fun i => if i < k then .dat (lV (m.getD i [])) else .adr (b + 1 + i)
theorem mixF_set {b k : Nat} {m : List (List Int)} (hk : k < m.length) : (mixF b m k).set k (.dat (lV (m.getD k []))) = mixF b m (k + 1) := by
  unfold mixF
  refine List.ext_getElem (by rw [List.length_set, List.length_map, List.length_map]) fun i h1 h2 => ?_
  rw [List.getElem_set, List.getElem_map, List.getElem_map, List.getElem_range]
  by_cases e : k = i
  · subst e
    rw [if_pos rfl, if_pos (by omega)]
  · rw [if_neg e]
    by_cases hl : i < k
    · rw [if_pos hl, if_pos (by omega)]
    · rw [if_neg hl, if_neg (by omega)]
theorem mixF_end {b : Nat} {m : List (List Int)} : mixF b m m.length = (m.map lV).map .dat := by
  unfold mixF
  refine List.ext_getElem (by rw [List.length_map, List.length_map, List.length_map, List.length_range]) fun i h1 h2 => ?_
  have hi : i < m.length := by rwa [List.length_map, List.length_range] at h1
  rw [List.getElem_map, List.getElem_range, if_pos hi, List.getElem_map, List.getElem_map, List.getD_eq_getElem?_getD, List.getElem?_eq_getElem hi]
  rfl
def frzM (pre : Mem) (m : List (List Int)) (k : Nat) : Mem := pre ++ some (mixF pre.length m k) :: (List.replicate k none ++ (m.drop k).map rowC)
theorem frz0 {pre : Mem} {m : List (List Int)} : frzM pre m 0 = pre ++ matC pre.length m := by
  unfold frzM matC mixF
  rw [List.drop_zero]
  rfl
theorem SB.fzM {C : Cc} {E : List O} {pre : Mem} {m : List (List Int)} {jj : Nat} {sts : List Stmt} {r : Out} (he : E[jj]? = some (.adr pre.length)) (h : SB C sts (E.set jj (.dat (lM m))) (pre ++ none :: List.replicate m.length none) r) : SB C sts E (pre ++ matC pre.length m) r := by
  have top : ∀ k, (frzM pre m k)[pre.length]? = some (some (mixF pre.length m k)) := fun k => by
    unfold frzM
    rw [List.getElem?_append_right (Nat.le_refl _), Nat.sub_self]
    rfl
  have go : ∀ d k, m.length - k = d → k ≤ m.length → SB C sts E (frzM pre m k) r := fun d => by
    induction d with
    | zero =>
      intro k hd hk
      have e : k = m.length := by omega
      subst e
      refine SB.fz (jj := jj) (nn := pre.length) (ds := m.map lV) he (by rw [top, mixF_end]) ?_
      have : (frzM pre m m.length).set pre.length none = pre ++ none :: List.replicate m.length none := by
        unfold frzM
        rw [List.set_append_right _ _ (Nat.le_refl _), Nat.sub_self, List.drop_of_length_le (Nat.le_refl _), List.map_nil, List.append_nil]
        rfl
      rw [this]
      exact h
    | succ d ih =>
      intro k hd hk
      have hk2 : k < m.length := by omega
      have hrow : (frzM pre m k)[pre.length + 1 + k]? = some (some (((m.getD k []).map D.int).map .dat)) := by
        unfold frzM
        rw [List.getElem?_append_right (by omega), show pre.length + 1 + k - pre.length = k + 1 by omega]
        show (List.replicate k none ++ (m.drop k).map rowC)[k]? = _
        rw [List.getElem?_append_right (by rw [List.length_replicate]; exact Nat.le_refl _), List.length_replicate, Nat.sub_self, drop_row hk2]
        rfl
      refine SB.fzC (oc := pre.length) (nn := pre.length + 1 + k) (k := k) (ps := mixF pre.length m k) (ds := (m.getD k []).map D.int) (top k) ?_ (by omega) hrow ?_
      · unfold mixF
        rw [List.getElem?_map, List.getElem?_range hk2]
        show some (if k < k then _ else _) = _
        rw [if_neg (by omega)]
      · have e : ((frzM pre m k).set (pre.length + 1 + k) none).set pre.length (some ((mixF pre.length m k).set k (.dat (lV (m.getD k []))))) = frzM pre m (k + 1) := by
          rw [mixF_set hk2]
          unfold frzM
          rw [List.set_append_right _ _ (by omega), show pre.length + 1 + k - pre.length = k + 1 by omega, List.set_append_right _ _ (Nat.le_refl _), Nat.sub_self]
          congr 1
          show some _ :: ((List.replicate k none ++ (m.drop k).map rowC).set k none) = _
          rw [List.set_append_right _ _ (by rw [List.length_replicate]; exact Nat.le_refl _), List.length_replicate, Nat.sub_self, drop_row hk2, List.replicate_succ']
          congr 1
          rw [List.append_assoc]
          rfl
        rw [e]
        exact ih (k + 1) (by omega) hk2
  rw [← frz0]
  exact go _ 0 rfl (Nat.zero_le _)
end
section
variable {g : Pg}
end
section
variable {g : Pg}
theorem matC_ren (b : Nat) (m : List (List Int)) : ((matC 0 m).map fun c => c.map fun ps => ps.map (·.ren fun k => b + k)) = matC b m := by
  unfold matC
  rw [List.map_cons, List.map_map]
  congr 1
  · show some (List.map _ (List.map _ _)) = _
    rw [List.map_map]
    congr 2
    funext i
    show O.adr (b + (0 + 1 + i)) = _
    congr 1
    omega
  · congr 1
    funext r
    show some (((r.map D.int).map O.dat).map _) = _
    rw [ren_dat]
theorem turn_step (W : Wd g) {rows : List (List Int)} {n w : Nat} {lim ct : Int} {d : D} {x : TS} (hn : 0 < n) (hn2 : n < 1000) (hw : 0 < w) (hw2 : w < 1000) (I : TI rows n w lim x) (st : O) :
    ∃ x', (∃ E2, Fg E2 (tuE d ct lim .no .no .no .no .no .no) ∧ SB (tuC g) (bodyOf (tuB.getD 3 (.Pass ⟨0, 0, 0, 0⟩))) (tuE d ct lim st .no .no .no .no .no) (TM x) (.nx E2 (TM x'))) ∧ TI rows n w lim x' := by
  let L : Mem := cel x.o :: cel x.t :: matC 4 x.b
  have hnn : (0 : Int) < (n : Int) := by omega
  let S1 : SS := drS x.s n
  let S2 : SS := drS S1 n
  let S3 : SS := drS S2 4
  have g1 : Gd S1 := I.gd.dr hnn
  have g2 : Gd S2 := g1.dr hnn
  have g3 : Gd S3 := g2.dr (by decide)
  obtain ⟨v1, v2⟩ := drV_in x.s hnn
  obtain ⟨u1, u2⟩ := drV_in S1 hnn
  have q0 := drV_in S2 (m := 4) (by decide)
  obtain ⟨i, hi⟩ : ∃ i : Nat, (i : Int) = drV x.s n := ⟨(drV x.s n).toNat, by omega⟩
  obtain ⟨j, hj⟩ : ∃ j : Nat, (j : Int) = drV S1 n := ⟨(drV S1 n).toNat, by omega⟩
  have hL : ([0 - 2, 0 - 1, 1, 2] : List Int).length = 4 := rfl
  have hq := pick_mem (L := [0 - 2, 0 - 1, 1, 2]) (i := drV S2 4) (by rw [hL]; exact q0)
  have hat : ixD (.lst [.int (0 - 2), .int (0 - 1), .int 1, .int 2]) (drV S2 4) = some (.int (pick [0 - 2, 0 - 1, 1, 2] (drV S2 4))) := pick_at (L := [0 - 2, 0 - 1, 1, 2]) (by rw [hL]; exact q0)
  generalize pick [0 - 2, 0 - 1, 1, 2] (drV S2 4) = q at hq hat
  have hq2 : q.natAbs ≤ 2 := by
    simp at hq
    omega
  let x3 : TS := ⟨S3, x.o, x.t, x.b⟩
  obtain ⟨x', ⟨E2, f, h⟩, I'⟩ := turn_do W (ct := ct) (d := d) (x := x3) hn2 hw hw2 ⟨g3, I.ol, I.ow, I.ob, I.s1, I.s2, I.tl, I.tw, I.bl, I.bw⟩ (i := i) (j := j) (q := q) (by omega) (by omega) hq2 st
  have len : ∀ {S : SS} {E : List O}, E[4]? = some (.adr 2) → EV (tuC g) (.Call (.Name "len" ⟨0, 0, 0, 0⟩) [.Name "out" ⟨0, 0, 0, 0⟩] [] ⟨0, 0, 0, 0⟩) E (MS S ++ L) (.dat (.int (n : Int))) (MS S ++ L) := fun h => EV.to (EV.lenC (nn := 2) (ps := (x.o.map lV).map O.dat) (EV.nm 4 (h := h)) rfl W.b.len) (by rw [cel_len, I.ol])
  refine ⟨x', ⟨E2, f, ?_⟩, I'⟩
  refine SB.cons (E1 := tuE d ct lim st (.dat (.int (i : Int))) .no .no .no .no) (M1 := MS S1 ++ L) (ST.to (ST.set 8 (EV.draw (L := L) (S := x.s) (m := (n : Int)) W I.gd hnn (by omega) (EV.nm 0) (EV.to (EV.lenC (nn := 2) (ps := (x.o.map lV).map O.dat) (EV.nm 4) rfl W.b.len) (by rw [cel_len, I.ol]))) c_law_turned.nd) (by rw [← hi]; rfl)) ?_
  refine SB.cons (E1 := tuE d ct lim st (.dat (.int (i : Int))) (.dat (.int (j : Int))) .no .no .no) (M1 := MS S2 ++ L) (ST.to (ST.set 9 (EV.draw (L := L) (S := S1) (m := (n : Int)) W g1 hnn (by omega) (EV.nm 0) (EV.to (EV.lenC (nn := 2) (ps := (x.o.map lV).map O.dat) (EV.nm 4) rfl W.b.len) (by rw [cel_len, I.ol]))) c_law_turned.nd) (by rw [← hj]; rfl)) ?_
  refine SB.cons (E1 := tuE d ct lim st (.dat (.int (i : Int))) (.dat (.int (j : Int))) (.dat (.int q)) .no .no) (M1 := MS S3 ++ L) (ST.set 10 (EV.ix (EV.lst (ds := [.int (0 - 2), .int (0 - 1), .int 1, .int 2]) (EA.cons (EV.sub EV.int EV.int) (EA.cons (EV.sub EV.int EV.int) (EA.cons EV.int (EA.cons EV.int EA.nil)))) (by show 4 ≤ 100000; decide)) (EV.draw (L := L) (S := S2) (m := 4) W g2 (by decide) (by decide) (EV.nm 0) EV.int) hat) c_law_turned.nd) (SB.one h)
theorem turned_pre (W : Wd g) {S : SS} {rows : List (List Int)} {n w ct : Nat} {lim : Int} {d : D} (hG : Gd S) (hd : Sq d rows) (hl : rows.length = n) (hn : 0 < n) (hn2 : n < 1000) (hw : 0 < w) (hw2 : w < 1000) (hrw : ∀ q ∈ rows, q.length = w) (hrb : ∀ q ∈ rows, ∀ y ∈ q, (y.natAbs : Int) ≤ lim) (hct : ct < 1000) :
    ∃ x', TI rows n w lim x' ∧ ∀ r, SB (tuC g) (tuB.drop 4) (tuE d ct lim .no .no .no .no .no .no) (TM x') r → SB (tuC g) tuB (pad n_law_turned [.adr 1, .dat d, .dat (.int (ct : Int)), .dat (.int lim)]) (MS S) r := by
  let x0 : TS := ⟨S, rows, idM n, idM n⟩
  have I0 : TI rows n w lim x0 := ⟨hG, hl, hrw, hrb, Sub.refl, Sub.refl, idM_len, idM_wid, idM_len, idM_wid⟩
  obtain ⟨f, f0, f1, f2⟩ := chain (S := TS) (n := ct) (I := fun _ x => TI rows n w lim x) (P := fun i x x' => ∃ E2, Fg E2 (tuE d ct lim .no .no .no .no .no .no) ∧ SB (tuC g) (bodyOf (tuB.getD 3 (.Pass ⟨0, 0, 0, 0⟩))) (tuE d ct lim (.dat (.int (i : Int))) .no .no .no .no .no) (TM x) (.nx E2 (TM x'))) (fun i hi x I => turn_step W hn hn2 hw hw2 I _) x0 I0
  refine ⟨f ct, f1 ct (Nat.le_refl _), fun r h => ?_⟩
  have hlen : ∀ {E : List O} {M : Mem} {p p1 p2 : Pos}, E[1]? = some (.dat d) → EV (tuC g) (.Call (.Name "len" p) [.Name "rows" p1] [] p2) E M (.dat (.int (n : Int))) M := fun h => EV.to (EV.len (EV.nm 1 (h := h)) hd.len W.b.len) (by rw [hl])
  refine SB.cons (E1 := [.adr 1, .dat d, .dat (.int (ct : Int)), .dat (.int lim), .adr 2, .no, .no, .no, .no, .no, .no, .no, .no, .no, .no]) (M1 := MS S ++ [cel rows]) (ST.setC 4 (LC.ev (LC.outC (pre := MS S) (jx := 11) (own := [("row", 11)]) W hd (by omega) (by rfl) c_law_turned.nd rfl (EV.nm 1))) c_law_turned.nd (fun env he => sw_cell (by rw [he]; rfl))) ?_
  refine SB.cons (E1 := [.adr 1, .dat d, .dat (.int (ct : Int)), .dat (.int lim), .adr 2, .adr 3, .no, .no, .no, .no, .no, .no, .no, .no, .no]) (M1 := MS S ++ [cel rows, cel (idM n)]) (ST.set 5 (EV.callM (ds := [.int (n : Int)]) (ok_ident_rows W) (EA.cons (hlen rfl) EA.nil) ⟨n, hn2, rfl, rfl, rfl, rfl⟩ rfl (by
    show _ = MS S ++ [cel rows] ++ [(cel (idM n)).map _]
    show MS S ++ [cel rows, cel (idM n)] = MS S ++ [cel rows] ++ [some (((((idM n).map lV)).map O.dat).map _)]
    rw [ren_dat]
    rfl)) c_law_turned.nd) ?_
  refine SB.cons (E1 := tuE d ct lim .no .no .no .no .no .no) (M1 := TM x0) (ST.set 6 (EV.callM (ds := [.int (n : Int)]) (ok_ident_cells W) (EA.cons (hlen rfl) EA.nil) ⟨n, hn2, rfl, rfl, rfl, rfl⟩ rfl (by
    rw [matC_ren]
    rfl)) c_law_turned.nd) ?_
  exact SB.cons (E1 := tuE d ct lim .no .no .no .no .no .no) (M1 := TM (f ct)) (ST.forN 7 (n := ct) (E_ := fun _ => tuE d ct lim .no .no .no .no .no .no) (M_ := fun k => TM (f k)) (EI.rng1 (j := (ct : Int)) (EV.nm 2) W.b.range (by omega)) Fg.refl (by rw [f0]) (fun _ _ => True.intro) c_law_turned.nd (fun i hi => by
    rw [atI0_eq]
    exact f2 i hi)) h
theorem LowM.reps {n : Nat} {M : Mem} (h : LowM n M) : ∀ k, LowM n (List.replicate k Option.none ++ M)
  | 0 => h
  | k + 1 => LowM.none (LowM.reps h k)
theorem fn_turned (W : Wd g) : FN g "_law_turned" 2 (fun os M o M' => os.length = 4 ∧ Run g n_law_turned s_law_turned 1 os M o M') := FN.run (ps := ["state", "rows", "count", "limit"]) W.t_law_turned c_law_turned (fun _ _ _ _ _ _ us hl => match us, hl with | [_, _, _, _], _ => rfl)
theorem turned_A (W : Wd g) {S : SS} {rows : List (List Int)} {n w ct : Nat} {lim : Int} {d : D} (hG : Gd S) (hd : Sq d rows) (hl : rows.length = n) (hn : 0 < n) (hn2 : n < 1000) (hw : 0 < w) (hw2 : w < 1000) (hrw : ∀ q ∈ rows, q.length = w) (hrb : ∀ q ∈ rows, ∀ y ∈ q, (y.natAbs : Int) ≤ lim) (hct : ct < 1000) :
    ∃ x', TI rows n w lim x' ∧ Run g n_law_turned s_law_turned 1 [.adr 1, .dat d, .dat (.int (ct : Int)), .dat (.int lim)] (MS S) (.dat (.lst [lM x'.o, lM x'.t, lM x'.b])) (MS x'.s) := by
  obtain ⟨x, I, h⟩ := turned_pre W (ct := ct) hG hd hl hn hn2 hw hw2 hrw hrb hct
  refine ⟨x, I, Nat.le_refl _, True.intro, lowS (L := []) (Nat.succ_pos 1) LowM.nil, none :: none :: none :: List.replicate x.b.length none, h _ ?_⟩
  refine SB.fz (jj := 4) (nn := 2) (ds := x.o.map lV) rfl rfl (SB.fz (jj := 5) (nn := 3) (ds := x.t.map lV) rfl rfl (SB.fzM (pre := MS x.s ++ [none, none]) (jj := 6) (m := x.b) rfl (SB.one (ST.ret (EV.lst (ds := [lM x.o, lM x.t, lM x.b]) (EA.cons (EV.nm 4) (EA.cons (EV.nm 5) (EA.cons (EV.nm 6) EA.nil))) (by show 3 ≤ 100000; decide))))))
def NB (x : TS) : Mem := cel x.o :: none :: none :: (List.replicate x.b.length none ++ [some [.adr 2, .dat (lM x.t), .dat (lM x.b)]])
theorem turned_B (W : Wd g) {S : SS} {rows : List (List Int)} {n w ct : Nat} {lim : Int} {d : D} (hG : Gd S) (hd : Sq d rows) (hl : rows.length = n) (hn : 0 < n) (hn2 : n < 1000) (hw : 0 < w) (hw2 : w < 1000) (hrw : ∀ q ∈ rows, q.length = w) (hrb : ∀ q ∈ rows, ∀ y ∈ q, (y.natAbs : Int) ≤ lim) (hct : ct < 1000) :
    ∃ x', TI rows n w lim x' ∧ Run g n_law_turned s_law_turned 1 [.adr 1, .dat d, .dat (.int (ct : Int)), .dat (.int lim)] (MS S) (.adr (5 + n)) (MS x'.s ++ NB x') := by
  obtain ⟨x, I, h⟩ := turned_pre W (ct := ct) hG hd hl hn hn2 hw hw2 hrw hrb hct
  have hlN : (MS x.s ++ NB x).length = 6 + n := by
    show (_ :: _ :: _ :: _ :: _ :: (List.replicate x.b.length (none : Option (List O)) ++ [_])).length = _
    simp [I.bl]
    omega
  have hlast : LowM (6 + n) [some [O.adr 2, .dat (lM x.t), .dat (lM x.b)]] := fun k os q o ho => by
    match k, q with
    | 0, q =>
      obtain rfl := Option.some.inj (Option.some.inj q)
      rcases List.mem_cons.mp ho with rfl | ho
      · show 2 < 6 + n
        omega
      · rcases List.mem_cons.mp ho with rfl | ho
        · exact True.intro
        · obtain rfl := List.mem_singleton.mp ho
          exact True.intro
  refine ⟨x, I, by rw [hlN]; show 2 ≤ 6 + n; omega, by rw [hlN]; show 5 + n < 6 + n; omega, by rw [hlN]; exact lowS (L := NB x) (by omega) (LowM.dat (ds := x.o.map lV) (LowM.none (LowM.none (LowM.reps hlast _)))), [], h _ ?_⟩
  refine SB.fz (jj := 5) (nn := 3) (ds := x.t.map lV) rfl rfl (SB.fzM (pre := MS x.s ++ [cel x.o, none]) (jj := 6) (m := x.b) rfl (SB_ret_to (SB.one (ST.ret (EV.cel (os := [.adr 2, .dat (lM x.t), .dat (lM x.b)]) (EA.cons (EV.nm 4) (EA.cons (EV.nm 5) (EA.cons (EV.nm 6) EA.nil))) (by show 3 ≤ 100000; decide)))) ?_ ?_))
  · congr 1
    simp [MS, I.bl]
    omega
  · rw [List.append_nil]
    show _ = MS x.s ++ (cel x.o :: none :: none :: (List.replicate x.b.length none ++ [_]))
    simp [MS]
end
end
section
/-! ### what a basis reduces to zero -/
section
theorem fmod_rng {r p : Int} (hp : 0 < p) : 0 ≤ r - r.fdiv p * p ∧ r - r.fdiv p * p < p := by
  have e := Int.fdiv_eq_ediv_of_nonneg r (Int.le_of_lt hp)
  rw [e, Int.mul_comm, ← Int.emod_def]
  exact ⟨Int.emod_nonneg _ (by omega), Int.emod_lt_of_pos _ hp⟩
theorem HF.ge {B : List (List Int)} {w r : Nat} {pc : Nat → Nat} (f : HF B w r pc) : ∀ i, i < r → i ≤ pc i
  | 0, _ => Nat.zero_le _
  | i + 1, h => by
    have := f.ge i (by omega)
    have := f.inc i (i + 1) (by omega) h
    omega
theorem HF.lenle {B : List (List Int)} {w r : Nat} {pc : Nat → Nat} (f : HF B w r pc) : r ≤ w := by
  by_cases h : r = 0
  · omega
  · have := f.ge (r - 1) (by omega)
    have := f.lt (r - 1) (by omega)
    omega
theorem red_bd {B : List (List Int)} {w e : Nat} {pc : Nat → Nat} {v : List Int} (f : HF B w B.length pc) (hl : v.length = w) (hb : ∀ i j, (gE B i j).natAbs ≤ 2 ^ e) (hv : ∀ j, (v.getD j 0).natAbs ≤ 2 ^ 20) : ∀ i, i ≤ B.length → (∀ j, ((red B v i).getD j 0).natAbs ≤ 2 ^ (20 + i * (e + 1))) ∧ (i < B.length → (quo B v i).natAbs ≤ 2 ^ (20 + i * (e + 1))) := fun i => by
  have q : ∀ i, i < B.length → ∀ a, (∀ j, ((red B v i).getD j 0).natAbs ≤ 2 ^ a) → (quo B v i).natAbs ≤ 2 ^ a := fun i hi a h => by
    obtain ⟨p, hp⟩ : ∃ p : Nat, (p : Int) = gE B i (pc i) := ⟨(gE B i (pc i)).toNat, by have := f.pos i hi; omega⟩
    have hp0 : 0 < p := by have := f.pos i hi; omega
    unfold quo
    rw [f.pvt hi, ← hp]
    exact Nat.le_trans (fdiv_le hp0) (h _)
  induction i with
  | zero => exact fun _ => ⟨fun j => by rw [Nat.zero_mul]; exact hv j, fun h => q 0 h _ fun j => by rw [Nat.zero_mul]; exact hv j⟩
  | succ i ih =>
    intro hi
    obtain ⟨h1, h2⟩ := ih (by omega)
    have key : ∀ j, ((red B v (i + 1)).getD j 0).natAbs ≤ 2 ^ (20 + (i + 1) * (e + 1)) := fun j => by
      rw [red_at f hl (by omega)]
      have a1 := h1 j
      have a2 := h2 (by omega)
      have a3 := hb i j
      have a4 : (quo B v i * gE B i j).natAbs ≤ 2 ^ (20 + i * (e + 1)) * 2 ^ e := by
        rw [Int.natAbs_mul]
        exact Nat.mul_le_mul a2 a3
      have a5 : 2 ^ (20 + (i + 1) * (e + 1)) = 2 * (2 ^ (20 + i * (e + 1)) * 2 ^ e) := by
        rw [← Nat.pow_add, Nat.mul_comm 2, ← Nat.pow_succ]
        congr 1
        rw [Nat.add_mul, Nat.one_mul]
        omega
      have a6 : 2 ^ (20 + i * (e + 1)) ≤ 2 ^ (20 + i * (e + 1)) * 2 ^ e := Nat.le_mul_of_pos_right _ (Nat.pow_pos (by decide))
      omega
    exact ⟨key, fun h => q _ h _ key⟩
theorem RedOk.of {B : List (List Int)} {w e : Nat} {pc : Nat → Nat} {v : List Int} (f : HF B w B.length pc) (hl : v.length = w) (hw : w ≤ 8) (he : e ≤ 2000000) (hb : ∀ i j, (gE B i j).natAbs ≤ 2 ^ e) (hv : ∀ j, (v.getD j 0).natAbs ≤ 2 ^ 20) : RedOk B w v := by
  have hle := f.lenle
  refine ⟨⟨pc, f⟩, hl, ⟨by omega, by omega⟩, fun i hi y hy => ?_⟩
  obtain ⟨j, hj, rfl⟩ := List.getElem_of_mem hy
  have ey : (B.getD i [])[j] = gE B i j := by
    unfold gE
    rw [List.getD_eq_getElem?_getD (l := B.getD i []), List.getElem?_eq_getElem hj]
    rfl
  rw [ey]
  have h1 : i * (e + 1) ≤ 8 * 2000001 := Nat.mul_le_mul (by omega) (by omega)
  refine mulOk_bits ((red_bd f hl hb hv i (by omega)).2 hi) (hb i j) ?_
  omega
theorem isC_ex {m : List (List Int)} (hm : Mx m) : ∃ B e, IsB m B ∧ e ≤ 2000000 ∧ ∀ i j, (gE B i j).natAbs ≤ 2 ^ e := by
  obtain ⟨h, H⟩ := hof_ex hm
  obtain ⟨B, b⟩ := isB_ex hm
  have hB := (b.of H).1
  obtain ⟨r, pc, f⟩ := H.rsl.fm
  rw [f.nzs] at hB
  have nbl : ∀ c, c < 9 → (nb c).2.1 ≤ 2000000 := by decide
  refine ⟨B, _, b, nbl (wd m) (by have := hm.w8; omega), fun i j => ?_⟩
  rw [← hB]
  by_cases hi : i < r
  · have e : gE (h.take r) i j = gE h i j := by
      unfold gE
      rw [List.getD_eq_getElem?_getD (l := h.take r), List.getElem?_take, if_pos hi, List.getD_eq_getElem?_getD (l := h)]
    rw [e]
    exact H.rsl.bd i j
  · have e : gE (h.take r) i j = 0 := by
      unfold gE
      rw [List.getD_eq_getElem?_getD (l := h.take r), List.getElem?_take, if_neg hi]
      rfl
    rw [e]
    exact Nat.zero_le _
theorem red_in {B : List (List Int)} {w : Nat} {pc : Nat → Nat} {v : List Int} (f : HF B w B.length pc) (hl : v.length = w) : ∀ i, i ≤ B.length → InS B fun j => v.getD j 0 - (red B v i).getD j 0
  | 0, _ => InS.zero.congr fun j => (Int.sub_self _).symm
  | i + 1, h => by
    have ih := red_in f hl i (by omega)
    refine (ih.add ((InS.ix (l := B) (i := i) (by omega)).smul (k := quo B v i))).congr fun j => ?_
    rw [red_at f hl (by omega)]
    omega
theorem red_rng {B : List (List Int)} {w : Nat} {pc : Nat → Nat} {v : List Int} (f : HF B w B.length pc) (hl : v.length = w) : ∀ i, i ≤ B.length → ∀ k, k < i → 0 ≤ (red B v i).getD (pc k) 0 ∧ (red B v i).getD (pc k) 0 < gE B k (pc k)
  | 0, _ => fun k hk => absurd hk (Nat.not_lt_zero k)
  | i + 1, h => fun k hk => by
    rw [red_at f hl (by omega)]
    by_cases hki : k = i
    · subst hki
      unfold quo
      rw [f.pvt (by omega)]
      exact fmod_rng (f.pos k (by omega))
    · have := red_rng f hl i (by omega) k (by omega)
      rw [f.left i (by omega) (pc k) (f.inc k i (by omega) (by omega)), Int.mul_zero, Int.sub_zero]
      exact this
theorem red_null {B : List (List Int)} {w : Nat} {pc : Nat → Nat} {v : List Int} (f : HF B w B.length pc) (hl : v.length = w) (h : InS B fun j => v.getD j 0) : leadF (red B v B.length) = none := by
  cases hp : leadF (red B v B.length) with
  | none => rfl
  | some p =>
    exfalso
    obtain ⟨p1, p2, p3⟩ := leadF_lt hp
    have hr : InS B fun j => (red B v B.length).getD j 0 := (h.add ((red_in f hl _ (Nat.le_refl _)).smul (k := -1))).congr fun j => by omega
    obtain ⟨i, hi, rfl, hd⟩ := f.lead0 hr (fun j hj => p3 j hj) p2
    obtain ⟨q1, q2⟩ := red_rng f hl _ (Nat.le_refl _) i hi
    have := Int.le_of_dvd (by omega) hd
    omega
theorem zr_iff {B : List (List Int)} {w : Nat} {pc : Nat → Nat} {v : List Int} (f : HF B w B.length pc) (hl : v.length = w) : zr B v = true ↔ InS B fun j => v.getD j 0 := by
  refine ⟨fun h => ?_, fun h => ?_⟩
  · have hn : leadF (red B v B.length) = none := by
      cases hp : leadF (red B v B.length) with
      | none => rfl
      | some p =>
        unfold zr at h
        rw [nzR_some hp] at h
        exact absurd h (by decide)
    exact (red_in f hl _ (Nat.le_refl _)).congr fun j => by rw [leadF_none hn]; omega
  · unfold zr
    rw [nzR_none (red_null f hl h)]
    rfl
theorem zr_eq {B : List (List Int)} {w : Nat} {pc : Nat → Nat} {v : List Int} (f : HF B w B.length pc) (hl : v.length = w) : zr B v = decide (red B v B.length = List.replicate w 0) := by
  have h1 := red_len f hl _ (Nat.le_refl _)
  unfold zr
  cases hp : leadF (red B v B.length) with
  | none =>
    rw [nzR_none hp]
    refine (decide_eq_true ?_).symm
    refine List.ext_getElem (by rw [h1, List.length_replicate]) fun i a b => ?_
    have := leadF_none hp i
    rw [List.getD_eq_getElem?_getD, List.getElem?_eq_getElem a] at this
    rw [List.getElem_replicate]
    exact this
  | some p =>
    rw [nzR_some hp]
    refine (decide_eq_false fun z => ?_).symm
    obtain ⟨_, p2, _⟩ := leadF_lt hp
    rw [z, rep_zero] at p2
    exact p2 rfl
end
end
section
/-! ### rows tidied are a basis -/
section
structure Td (T : List (List Int)) (w : Nat) (pc : Nat → Nat) : Prop where
  wid : ∀ q ∈ T, q.length = w
  l8 : T.length < 1000 ∧ w < 1000
  lt : ∀ i, i < T.length → pc i < w
  inc : ∀ i j, i < j → j < T.length → pc i < pc j
  left : ∀ i, i < T.length → ∀ j, j < pc i → gE T i j = 0
  pos : ∀ i, i < T.length → 0 < gE T i (pc i)
  sm : ∀ q ∈ T, ∀ y ∈ q, y.natAbs < 2 ^ 60
theorem getD_set {α : Type} {l : List α} {j a : Nat} {r d : α} (hj : j < l.length) : (l.set j r).getD a d = if a = j then r else l.getD a d := by
  rw [List.getD_eq_getElem?_getD, List.getD_eq_getElem?_getD]
  by_cases h : a = j
  · rw [if_pos h, h, List.getElem?_set_self hj]
    rfl
  · rw [if_neg h, List.getElem?_set_ne (fun z => h z.symm)]
theorem tdIn_row {T : List (List Int)} {k : Nat} (hk : k < T.length) : ∀ j, j ≤ k → ∀ a, (tdIn T k j).getD a [] = if a < j then lessV (T.getD a []) ((gE T a (headF (T.getD k []))).fdiv (gE T k (headF (T.getD k [])))) (T.getD k []) else T.getD a []
  | 0, _, a => by
    rw [if_neg (Nat.not_lt_zero a)]
    rfl
  | j + 1, hj, a => by
    have ih := tdIn_row hk j (by omega)
    show (List.set _ _ _).getD a [] = _
    rw [getD_set (by rw [tdIn_len]; omega)]
    by_cases h : a = j
    · subst h
      rw [if_pos rfl, if_pos (Nat.lt_succ_self a), ih a, if_neg (Nat.lt_irrefl a), ih k, if_neg (by omega)]
      unfold gE
      rw [ih a, if_neg (Nat.lt_irrefl a), ih k, if_neg (by omega)]
    · rw [if_neg h, ih a]
      by_cases h2 : a < j
      · rw [if_pos h2, if_pos (by omega)]
      · rw [if_neg h2, if_neg (by omega)]
theorem tdIn_sub {T : List (List Int)} {k w : Nat} (hw : ∀ q ∈ T, q.length = w) (hk : k < T.length) : ∀ j, j ≤ k → Sub (tdIn T k j) T ∧ Sub T (tdIn T k j)
  | 0, _ => ⟨Sub.refl, Sub.refl⟩
  | j + 1, hj => by
    obtain ⟨s1, s2⟩ := tdIn_sub hw hk j (by omega)
    obtain ⟨t1, t2⟩ := sub_take (l := tdIn T k j) (i := j) (j := k) (k := (gE (tdIn T k j) j (headF (T.getD k []))).fdiv (gE (tdIn T k j) k (headF (T.getD k [])))) (by rw [tdIn_len]; omega) (by rw [tdIn_len]; exact hk) (by omega) (tdIn_wid hw hk j (by omega))
    exact ⟨t1.trans s1, s2.trans t2⟩
structure TdI (T : List (List Int)) (w : Nat) (pc : Nat → Nat) (k : Nat) : Prop where
  r : ∀ a, k ≤ a → (tdOut T k).getD a [] = T.getD a []
  left : ∀ a, a < T.length → ∀ b, b < pc a → gE (tdOut T k) a b = 0
  dg : ∀ a, a < T.length → gE (tdOut T k) a (pc a) = gE T a (pc a)
  abv : ∀ a i, a < i → i < k → 0 ≤ gE (tdOut T k) a (pc i) ∧ gE (tdOut T k) a (pc i) < gE T i (pc i)
  s1 : Sub (tdOut T k) T
  s2 : Sub T (tdOut T k)
section
variable {T : List (List Int)} {w : Nat} {pc : Nat → Nat}
theorem Td.lead (t : Td T w pc) {k : Nat} (hk : k < T.length) : headF (T.getD k []) = pc k := by
  have hl := t.wid _ (mem_getD hk : T.getD k [] ∈ T)
  unfold headF
  rw [lead_eq (p := pc k) (by rw [hl]; exact t.lt k hk) (by have := t.pos k hk; unfold gE at this; omega) (fun j hj => t.left k hk j hj)]
theorem Td.step (t : Td T w pc) {k : Nat} (hk : k < T.length) (I : ∀ a, k ≤ a → (tdOut T k).getD a [] = T.getD a []) (a b : Nat) : gE (tdOut T (k + 1)) a b = if a < k then gE (tdOut T k) a b - (gE (tdOut T k) a (pc k)).fdiv (gE T k (pc k)) * gE T k b else gE (tdOut T k) a b := by
  have hl : k < (tdOut T k).length := by rw [tdOut_len]; exact hk
  have row := tdIn_row hl k (Nat.le_refl k) a
  have e : (tdOut T (k + 1)).getD a [] = (tdIn (tdOut T k) k k).getD a [] := rfl
  rw [I k (Nat.le_refl k), t.lead hk] at row
  show ((tdOut T (k + 1)).getD a []).getD b 0 = _
  rw [e, row]
  by_cases h : a < k
  · rw [if_pos h, if_pos h]
    have hw := tdOut_wid t.wid k (by omega)
    rw [lessV_ent (by rw [hw _ (mem_getD (by omega)), t.wid _ (mem_getD hk)])]
    have e2 : gE (tdOut T k) k (pc k) = gE T k (pc k) := by
      unfold gE
      rw [I k (Nat.le_refl k)]
    rw [e2]
    rfl
  · rw [if_neg h, if_neg h]
    rfl
theorem Td.inv (t : Td T w pc) : ∀ k, k ≤ T.length → TdI T w pc k
  | 0, _ => ⟨fun _ _ => rfl, fun a ha b hb => t.left a ha b hb, fun _ _ => rfl, fun a i _ hi => absurd hi (Nat.not_lt_zero i), Sub.refl, Sub.refl⟩
  | k + 1, hk => by
    have I := t.inv k (by omega)
    have st := t.step (by omega) I.r
    have hl : k < (tdOut T k).length := by rw [tdOut_len]; omega
    obtain ⟨s1, s2⟩ := tdIn_sub (tdOut_wid t.wid k (by omega)) hl k (Nat.le_refl k)
    refine ⟨fun a ha => ?_, fun a ha b hb => ?_, fun a ha => ?_, fun a i h1 h2 => ?_, s1.trans I.s1, I.s2.trans s2⟩
    · show (tdIn (tdOut T k) k k).getD a [] = _
      rw [tdIn_row hl k (Nat.le_refl k) a, if_neg (by omega)]
      exact I.r a (by omega)
    · rw [st]
      by_cases h : a < k
      · rw [if_pos h, I.left a ha b hb, t.left k (by omega) b (by have := t.inc a k h (by omega); omega)]
        omega
      · rw [if_neg h]
        exact I.left a ha b hb
    · rw [st]
      by_cases h : a < k
      · rw [if_pos h, I.dg a ha, t.left k (by omega) (pc a) (t.inc a k h (by omega))]
        omega
      · rw [if_neg h]
        exact I.dg a ha
    · rw [st]
      by_cases h : i = k
      · subst h
        rw [if_pos h1]
        exact fmod_rng (t.pos i (by omega))
      · rw [if_pos (by omega), t.left k (by omega) (pc i) (t.inc i k (by omega) (by omega)), Int.mul_zero, Int.sub_zero]
        exact I.abv a i h1 (by omega)
theorem Td.ok (t : Td T w pc) : TdOk T w := by
  refine ⟨t.wid, t.l8, fun k hk j hj => ?_⟩
  have I := t.inv k (by omega)
  have hl : k < (tdOut T k).length := by rw [tdOut_len]; exact hk
  have row : (tdIn (tdOut T k) k j).getD k [] = T.getD k [] := by
    rw [tdIn_row hl j (by omega) k, if_neg (by omega)]
    exact I.r k (Nat.le_refl k)
  rw [I.r k (Nat.le_refl k), t.lead hk, row]
  refine ⟨t.lt k hk, ?_, fun y hy => mul_okR ?_⟩
  · have := t.pos k hk
    unfold gE at this ⊢
    rw [row]
    omega
  · have := t.sm _ (mem_getD hk : T.getD k [] ∈ T) y hy
    omega
theorem Td.form (t : Td T w pc) : HF (tdOut T T.length) w (tdOut T T.length).length pc ∧ Sub (tdOut T T.length) T ∧ Sub T (tdOut T T.length) := by
  have I := t.inv T.length (Nat.le_refl _)
  refine ⟨?_, I.s1, I.s2⟩
  rw [tdOut_len]
  exact ⟨by rw [tdOut_len]; exact Nat.le_refl _, tdOut_wid t.wid _ (Nat.le_refl _), t.lt, t.inc, I.left, fun i hi => by rw [I.dg i hi]; exact t.pos i hi, fun a i h1 h2 => by rw [I.dg i h2]; exact I.abv a i h1 h2, fun i hi j => by
    have e : (tdOut T T.length).getD i [] = [] := by rw [List.getD_eq_getElem?_getD, List.getElem?_eq_none (by rw [tdOut_len]; exact hi)]; rfl
    unfold gE
    rw [e]
    rfl⟩
end
end
end
section
/-! ### all vectors that fit -/
section
def dotF (c : List Int) (f : Nat → Int) : Int := ((List.range c.length).map fun k => c.getD k 0 * f k).sum
theorem sum_lin {f g : Nat → Int} {a : Int} : ∀ l : List Nat, (l.map fun k => f k + a * g k).sum = (l.map f).sum + a * (l.map g).sum
  | [] => by simp
  | k :: l => by
    rw [List.map_cons, List.map_cons, List.map_cons, List.sum_cons, List.sum_cons, List.sum_cons, sum_lin l, Int.mul_add]
    omega
theorem dotF_lin {c : List Int} {f g : Nat → Int} {a : Int} : dotF c (fun k => f k + a * g k) = dotF c f + a * dotF c g := by
  unfold dotF
  rw [← sum_lin]
  congr 1
  refine List.map_congr_left fun k _ => ?_
  rw [Int.mul_add, Int.mul_left_comm]
theorem dotF_congr {c : List Int} {f g : Nat → Int} (h : ∀ k, f k = g k) : dotF c f = dotF c g := by rw [funext h]
theorem dotF_zero {c : List Int} {f : Nat → Int} (h : ∀ k, f k = 0) : dotF c f = 0 := by
  have h0 := dotF_lin (c := c) (f := fun _ => 0) (g := fun _ => 0) (a := 1)
  have e : dotF c (fun _ => 0 + 1 * 0) = dotF c fun _ => 0 := dotF_congr fun _ => by omega
  rw [e] at h0
  rw [dotF_congr h]
  omega
theorem InS.fit {c : List Int} {m : Int} : ∀ {l : List (List Int)} {v : Nat → Int}, (∀ r ∈ l, m ∣ dotF c fun k => r.getD k 0) → InS l v → m ∣ dotF c v
  | [], v, _, h => by
    rw [dotF_zero h]
    exact Int.dvd_zero m
  | r :: l, v, hr, ⟨k, h⟩ => by
    have h1 := InS.fit (fun q hq => hr q (List.mem_cons_of_mem _ hq)) h
    have h2 := hr r List.mem_cons_self
    have e : dotF c v = dotF c (fun j => v j - k * r.getD j 0) + k * dotF c (fun j => r.getD j 0) := by
      rw [← dotF_lin]
      exact dotF_congr fun j => by omega
    rw [e]
    exact Int.dvd_add h1 (Int.dvd_mul_of_dvd_right h2)
theorem fits_iff {sums : List (List Int)} {m : Int} {v : List Int} : fitsB sums m v = true ↔ ∀ c ∈ sums, m ∣ dotF c fun k => v.getD k 0 := by
  unfold fitsB
  rw [List.all_eq_true]
  exact ⟨fun h c hc => Int.dvd_of_emod_eq_zero (of_decide_eq_true (h c hc)), fun h c hc => decide_eq_true (Int.emod_eq_zero_of_dvd (h c hc))⟩
theorem box_mem {low : Int} {n : Nat} : ∀ k, ∀ v : List Int, v.length = k → (∀ y ∈ v, low ≤ y ∧ y < low + (n : Int)) → v ∈ boxV low n k
  | 0, v, h, _ => by
    rw [List.eq_nil_of_length_eq_zero h]
    exact List.mem_singleton_self _
  | k + 1, v, h, hy => by
    have hne : v ≠ [] := fun z => by rw [z] at h; simp at h
    have e := List.dropLast_concat_getLast hne
    have ih := box_mem k v.dropLast (by rw [List.length_dropLast]; omega) fun y hm => hy y (List.dropLast_subset _ hm)
    obtain ⟨l1, l2⟩ := hy _ (List.getLast_mem hne)
    refine List.mem_flatMap.mpr ⟨_, ih, List.mem_map.mpr ⟨(v.getLast hne - low).toNat, List.mem_range.mpr (by omega), ?_⟩⟩
    have e2 : low + ((v.getLast hne - low).toNat : Int) = v.getLast hne := by omega
    rw [e2]
    exact e
theorem box_rng {low : Int} {n : Nat} : ∀ k, ∀ v ∈ boxV low n k, ∀ y ∈ v, low ≤ y ∧ y < low + (n : Int)
  | 0, v, h, y, hy => by
    rw [List.mem_singleton.mp h] at hy
    simp at hy
  | k + 1, v, h, y, hy => by
    obtain ⟨u, hu, hv⟩ := List.mem_flatMap.mp h
    obtain ⟨i, hi, rfl⟩ := List.mem_map.mp hv
    rcases List.mem_append.mp hy with hy | hy
    · exact box_rng k u hu y hy
    · have := List.mem_range.mp hi
      rw [List.mem_singleton.mp hy]
      omega
structure ShI (sums : List (List Int)) (m : Int) (w : Nat) (ps T : List (List Int)) : Prop where
  len : T.length = w
  wid : ∀ q ∈ T, q.length = w
  low : ∀ k, k < w → ∀ j, j < k → gE T k j = 0
  dg : ∀ k, k < w → 0 < gE T k k ∧ gE T k k ≤ m
  fit : ∀ q ∈ T, ∀ c ∈ sums, m ∣ dotF c fun k => q.getD k 0
  rng : ∀ q ∈ T, ∀ y ∈ q, 0 ≤ y ∧ y ≤ m
  min : ∀ v ∈ ps, headF v < w → gE T (headF v) (headF v) ≤ v.getD (headF v) 0
structure Shv (sums : List (List Int)) (m : Int) (w : Nat) (v : List Int) : Prop where
  len : v.length = w
  rng : ∀ y ∈ v, 0 ≤ y ∧ y < m
  fit : ∀ c ∈ sums, m ∣ dotF c fun k => v.getD k 0
theorem headF_lt {v : List Int} (h : headF v < v.length) : v.getD (headF v) 0 ≠ 0 ∧ ∀ j, j < headF v → v.getD j 0 = 0 := by
  unfold headF at h ⊢
  cases hp : leadF v with
  | none =>
    rw [hp] at h
    exact absurd h (Nat.lt_irrefl _)
  | some p =>
    obtain ⟨_, p2, p3⟩ := leadF_lt hp
    exact ⟨p2, p3⟩
theorem ShI.step {sums : List (List Int)} {m : Int} {w : Nat} {ps T : List (List Int)} {v : List Int} (I : ShI sums m w ps T) (hv : Shv sums m w v) : ShI sums m w (ps ++ [v]) (shp1 w T v) := by
  by_cases h : headF v < w ∧ v.getD (headF v) 0 < gE T (headF v) (headF v)
  · have e : shp1 w T v = T.set (headF v) v := if_pos h
    rw [e]
    obtain ⟨h1, h2⟩ := h
    have hl : headF v < T.length := by rw [I.len]; exact h1
    obtain ⟨n1, n2⟩ := headF_lt (v := v) (by rw [hv.len]; exact h1)
    have g : ∀ a b, gE (T.set (headF v) v) a b = if a = headF v then v.getD b 0 else gE T a b := fun a b => by
      unfold gE
      rw [getD_set hl]
      split <;> rfl
    have hvp := hv.rng _ (mem_getD (a0 := (0 : Int)) (by rw [hv.len]; exact h1 : headF v < v.length))
    have mem : ∀ q ∈ T.set (headF v) v, q ∈ T ∨ q = v := fun q hq => List.mem_or_eq_of_mem_set hq
    refine ⟨by rw [List.length_set, I.len], fun q hq => ?_, fun k hk j hj => ?_, fun k hk => ?_, fun q hq => ?_, fun q hq => ?_, fun u hu hu2 => ?_⟩
    · rcases mem q hq with hq | rfl
      · exact I.wid q hq
      · exact hv.len
    · rw [g]
      by_cases hk2 : k = headF v
      · rw [if_pos hk2]
        exact n2 j (by omega)
      · rw [if_neg hk2]
        exact I.low k hk j hj
    · rw [g]
      by_cases hk2 : k = headF v
      · rw [if_pos hk2, hk2]
        omega
      · rw [if_neg hk2]
        exact I.dg k hk
    · rcases mem q hq with hq | rfl
      · exact I.fit q hq
      · exact hv.fit
    · rcases mem q hq with hq | rfl
      · exact I.rng q hq
      · exact fun y hy => by have := hv.rng y hy; omega
    · rw [g]
      rcases List.mem_append.mp hu with hu | hu
      · by_cases hk2 : headF u = headF v
        · rw [if_pos hk2, hk2]
          have := I.min u hu hu2
          rw [hk2] at this
          omega
        · rw [if_neg hk2]
          exact I.min u hu hu2
      · rw [List.mem_singleton.mp hu, if_pos rfl]
        exact Int.le_refl _
  · have e : shp1 w T v = T := if_neg h
    rw [e]
    refine ⟨I.len, I.wid, I.low, I.dg, I.fit, I.rng, fun u hu hu2 => ?_⟩
    rcases List.mem_append.mp hu with hu | hu
    · exact I.min u hu hu2
    · have eu := List.mem_singleton.mp hu
      subst eu
      omega
theorem ShI.all {sums : List (List Int)} {m : Int} {w : Nat} : ∀ (seen : List (List Int)) {ps T : List (List Int)}, ShI sums m w ps T → (∀ v ∈ seen, Shv sums m w v) → ShI sums m w (ps ++ seen) (seen.foldl (shp1 w) T)
  | [], ps, T, I, _ => by rw [List.append_nil]; exact I
  | v :: seen, ps, T, I, h => by
    have := ShI.all seen (I.step (h v List.mem_cons_self)) fun u hu => h u (List.mem_cons_of_mem _ hu)
    rw [List.append_assoc] at this
    exact this
theorem ShI.zero {sums : List (List Int)} {m : Int} {w : Nat} (hm : 0 < m) : ShI sums m w [] (diagM m w) := by
  have ent : ∀ q ∈ diagM m w, ∀ y ∈ q, y = 0 ∨ y = m := fun q hq y hy => by
    obtain ⟨k, _, rfl⟩ := List.mem_map.mp hq
    obtain ⟨j, _, rfl⟩ := List.mem_map.mp hy
    by_cases h : (k : Int) = (j : Int)
    · rw [if_pos h]
      exact .inr (Int.mul_one m)
    · rw [if_neg h]
      exact .inl (Int.mul_zero m)
  refine ⟨diagM_len, diagM_wid, fun k hk j hj => ?_, fun k hk => ?_, fun q hq c hc => ?_, fun q hq y hy => ?_, fun v hv => absurd hv (List.not_mem_nil)⟩
  · rw [gE_diagM hk (by omega), if_neg (by omega)]
  · rw [gE_diagM hk hk, if_pos rfl]
    omega
  · have hd : ∀ k, m ∣ q.getD k 0 := fun k => by
      by_cases hk : k < q.length
      · rcases ent q hq _ (mem_getD (a0 := (0 : Int)) hk) with h | h
        · rw [h]
          exact Int.dvd_zero m
        · rw [h]
          exact Int.dvd_refl m
      · rw [List.getD_eq_getElem?_getD, List.getElem?_eq_none (by omega)]
        exact Int.dvd_zero m
    unfold dotF
    have go : ∀ l : List Nat, m ∣ (l.map fun k => c.getD k 0 * q.getD k 0).sum := fun l => by
      induction l with
      | nil => exact Int.dvd_zero m
      | cons a l ih =>
        rw [List.map_cons, List.sum_cons]
        exact Int.dvd_add (Int.dvd_mul_of_dvd_right (hd a)) ih
    exact go _
  · rcases ent q hq y hy with h | h <;> omega
theorem ShI.td {sums : List (List Int)} {m : Int} {w : Nat} {ps T : List (List Int)} (I : ShI sums m w ps T) (hw : w < 1000) (hm : m < 2 ^ 60) : Td T w fun k => k := by
  refine ⟨I.wid, ⟨by rw [I.len]; exact hw, hw⟩, fun i hi => by rw [← I.len]; exact hi, fun _ _ h _ => h, fun i hi j hj => I.low i (by rw [← I.len]; exact hi) j hj, fun i hi => (I.dg i (by rw [← I.len]; exact hi)).1, fun q hq y hy => ?_⟩
  have := I.rng q hq y hy
  omega
/-- what small asks of its form -/
structure SmF (sums : List (List Int)) (m : Int) (w : Nat) (F : List (List Int)) : Prop where
  len : F.length = w
  hf : HF F w F.length fun k => k
  bd : ∀ q ∈ F, ∀ y ∈ q, 0 ≤ y ∧ y ≤ m
  zr : ∀ v : List Int, v.length = w → zr F v = fitsB sums m v
theorem small_form {sums : List (List Int)} {w n : Nat} {m : Int} (hm : m = (n : Int)) (h0 : 0 < n) (hm2 : m < 2 ^ 60) (hw : w < 1000) (hc : ∀ c ∈ sums, c.length = w) : TdOk (shpT m w ((boxV 0 n w).filter (fitsB sums m))) w ∧ SmF sums m w (tdOut (shpT m w ((boxV 0 n w).filter (fitsB sums m))) w) := by
  have hsv : ∀ v ∈ (boxV 0 n w).filter (fitsB sums m), Shv sums m w v := fun v hv => by
    obtain ⟨h1, h2⟩ := List.mem_filter.mp hv
    exact ⟨box_wid w v h1, fun y hy => by have := box_rng w v h1 y hy; omega, fits_iff.mp h2⟩
  have I : ShI sums m w ([] ++ _) (shpT m w ((boxV 0 n w).filter (fitsB sums m))) := ShI.all _ (ShI.zero (by omega)) hsv
  rw [List.nil_append] at I
  generalize shpT m w ((boxV 0 n w).filter (fitsB sums m)) = T at I
  have t := I.td hw hm2
  obtain ⟨f, s1, s2⟩ := t.form
  have TI := t.inv T.length (Nat.le_refl _)
  have dg0 := TI.dg
  rw [I.len] at f s1 s2 dg0
  have fl : (tdOut T w).length = w := by rw [tdOut_len, I.len]
  generalize tdOut T w = F at f s1 s2 dg0 fl
  have ltl : ∀ v : List Int, v.length = w → (∀ c ∈ sums, m ∣ dotF c fun k => v.getD k 0) → leadF (red F v F.length) = none := fun v hv hf => by
    cases hp : leadF (red F v F.length) with
    | none => rfl
    | some p =>
      exfalso
      obtain ⟨p1, p2, p3⟩ := leadF_lt hp
      have rl := red_len f hv _ (Nat.le_refl _)
      have rr := red_rng f hv _ (Nat.le_refl _)
      have rin := red_in f hv _ (Nat.le_refl _)
      have rfit : ∀ c ∈ sums, m ∣ dotF c fun k => (red F v F.length).getD k 0 := fun c hc => by
        have h1 := InS.fit (c := c) (m := m) (fun q hq => InS.fit (fun r hr => I.fit r hr c hc) (s1 q hq)) rin
        have h2 := hf c hc
        have e : dotF c (fun k => v.getD k 0) = dotF c (fun k => (red F v F.length).getD k 0) + 1 * dotF c (fun j => v.getD j 0 - (red F v F.length).getD j 0) := by
          rw [← dotF_lin]
          exact dotF_congr fun j => by omega
        rw [e, Int.one_mul] at h2
        exact (Int.dvd_iff_dvd_of_dvd_add h2).mpr h1
      generalize red F v F.length = r at hp p1 p2 p3 rl rr rfit
      have hpw : p < w := by omega
      have hh : headF r = p := by unfold headF; rw [hp]
      have ent : ∀ k, k < w → 0 ≤ r.getD k 0 ∧ r.getD k 0 < gE T k k := fun k hk => by
        have := rr k (by omega)
        rw [dg0 k hk] at this
        exact this
      have rb : r ∈ boxV 0 n w := box_mem w r rl fun y hy => by
        obtain ⟨k, hk, rfl⟩ := List.getElem_of_mem hy
        have := ent k (by omega)
        have := (I.dg k (by omega)).2
        have e : r.getD k 0 = r[k] := by rw [List.getD_eq_getElem?_getD, List.getElem?_eq_getElem hk]; rfl
        omega
      have := I.min r (List.mem_filter.mpr ⟨rb, fits_iff.mpr rfit⟩) (by omega)
      rw [hh] at this
      have := ent p hpw
      omega
  refine ⟨by have := t.ok; exact this, fl, f, fun q hq y hy => ?_, fun v hv => ?_⟩
  · obtain ⟨a, ha, rfl⟩ := List.getElem_of_mem hq
    obtain ⟨b, hb, rfl⟩ := List.getElem_of_mem hy
    have hbw : b < w := by have := f.wid _ (List.getElem_mem ha); omega
    have e : F[a][b] = gE F a b := by
      unfold gE
      rw [List.getD_eq_getElem?_getD (l := F), List.getElem?_eq_getElem ha, Option.getD_some, List.getD_eq_getElem?_getD, List.getElem?_eq_getElem hb]
      rfl
    rw [e]
    have d2 := fun k (hk : k < w) => I.dg k hk
    rcases Nat.lt_trichotomy a b with h | h | h
    · have h1 := f.abv a b h (by omega)
      have h2 := d2 b hbw
      rw [dg0 b hbw] at h1
      omega
    · subst h
      have h2 := d2 a hbw
      rw [dg0 a hbw]
      omega
    · rw [f.left a ha b h]
      omega
  · rw [Bool.eq_iff_iff]
    refine ⟨fun h => ?_, fun h => ?_⟩
    · have hin := (zr_iff f hv).mp h
      exact fits_iff.mpr fun c hc => InS.fit (fun q hq => InS.fit (fun r hr => I.fit r hr c hc) (s1 q hq)) hin
    · unfold Ab.zr
      rw [nzR_none (ltl v hv (fits_iff.mp h))]
      rfl
end
end
section
/-! ### lists out of draws -/
section
theorem Ev.frozL {E : List O} {M M' : Mem} {t : TE} {n : Nat} {ds : List D} (h : Ev t E M (.adr n) (M' ++ [some (ds.map .dat)])) (hn : n = M'.length) (hl : M.length ≤ M'.length) (ok : LowM M'.length M') : Ev t E M (.dat (.lst ds)) M' := fun I H adr σ Q s q => by
  refine h I H adr σ Q s fun v I1 H1 adr1 s1 g1 v1 => ?_
  obtain ⟨p, hp, rfl⟩ := v1
  obtain ⟨nw, rfl, fr⟩ := g1.new
  have hlen := s1.sto.len
  rw [List.length_append, List.length_append, List.length_singleton] at hlen
  have hl0 := s.sto.len
  have hcell : (M' ++ [some (ds.map O.dat)])[n]? = some (some (ds.map .dat)) := by
    rw [hn, List.getElem?_append_right (Nat.le_refl _), Nat.sub_self]
    rfl
  obtain ⟨hi, xs, hx1, hx2⟩ := s1.sto.cell n p _ hp hcell
  have hne : nw ≠ [] := fun z => by
    subst z
    simp at hlen
    omega
  -- the last address is p
  have hnw : nw = nw.dropLast ++ [p] := by
    have e1 : (adr ++ nw)[n]? = nw[nw.length - 1]? := by
      rw [List.getElem?_append_right (by omega)]
      congr 1
      omega
    rw [hp] at e1
    have e2 : nw.getLast hne = p := by
      rw [List.getLast_eq_getElem]
      have := (List.getElem?_eq_some_iff.mp e1.symm).2
      exact this
    rw [← e2]
    exact (List.dropLast_concat_getLast hne).symm
  have hdl : (adr ++ nw) = (adr ++ nw.dropLast) ++ [p] := by
    rw [List.append_assoc, ← hnw]
  have hlen2 : (adr ++ nw.dropLast).length = M'.length := by
    rw [List.length_append, List.length_dropLast]
    have : nw.length ≠ 0 := fun z => hne (List.eq_nil_of_length_eq_zero z)
    omega
  have sub : ∀ (k : Nat) (a : Addr), (adr ++ nw.dropLast)[k]? = some a → (adr ++ nw)[k]? = some a := fun k a hk => by
    rw [hdl, List.getElem?_append_left (List.getElem?_eq_some_iff.mp hk).1]
    exact hk
  have sub0 : ∀ (k : Nat) (a : Addr), adr[k]? = some a → (adr ++ nw)[k]? = some a := fun k a hk => by
    rw [List.getElem?_append_left (List.getElem?_eq_some_iff.mp hk).1]
    exact hk
  have ndp : p ∉ adr ++ nw.dropLast := by
    have nd1 := s1.sto.nd
    rw [hdl, List.nodup_append] at nd1
    intro z
    exact nd1.2.2 p z p (by simp) rfl
  have pin : p ∈ nw := by
    rw [hnw]
    simp
  have ex1 : Ex I1 (upd I1 p (.lst xs)) := Ex.new hi
  have ex2 : Ex (upd I1 p (.lst xs)) H1 := fun a u z => by
    by_cases e : a = p
    · subst e
      rw [upd_same] at z
      cases z
      exact hx1
    · rw [upd_ne e] at z
      exact s1.ex a u z
  have g2 : Grow I H adr (upd I1 p (.lst xs)) H1 (adr ++ nw.dropLast) := by
    refine ⟨g1.ex.trans ex1, ⟨nw.dropLast, rfl, fun a ha => fr a ((List.dropLast_sublist nw).subset ha)⟩, g1.keep, g1.dom, fun a u h1 n h2 h3 => ?_, g1.code⟩
    have : a ≠ p := fun z => by
      rw [z] at h1
      exact fr p pin u h1 n
    rw [upd_ne this]
    exact g1.out a u h1 n h2 h3
  have sto2 : Sto (upd I1 p (.lst xs)) H1 (adr ++ nw.dropLast) M' := by
    refine ⟨hlen2, ?_, fun k a os h1 h2 => ?_, fun k a h1 => s1.sto.dom k a (sub k a h1), s1.sto.amb.same fun b u h => ?_⟩
    · have nd1 := s1.sto.nd
      rw [hdl, List.nodup_append] at nd1
      exact nd1.1
    · have hk : k < M'.length := (List.getElem?_eq_some_iff.mp h2).1
      have h3 : (M' ++ [some (ds.map O.dat)])[k]? = some (some os) := by
        rw [List.getElem?_append_left hk]
        exact h2
      obtain ⟨c1, ys, c2, c3⟩ := s1.sto.cell k a os (sub k a h1) h3
      have na : a ≠ p := fun z => ndp (by rw [← z]; exact List.mem_of_getElem? h1)
      refine ⟨by rw [upd_ne na]; exact c1, ys, c2, Vs.ext ex1 ?_⟩
      have e3 : (adr ++ nw).take M'.length = adr ++ nw.dropLast := by
        rw [hdl, ← hlen2, List.take_left']
        rfl
      rw [← e3]
      exact vs_take (ok k os h2) c3
    · by_cases e : b = p
      · subst e
        rw [upd_same] at h
        cases h
        exact NT.lst
      · rw [upd_ne e] at h
        exact s1.sto.amb.nt b u h
  exact q _ _ H1 _ (s.mono g2 ex2 sto2) g2 (.lst upd_same (hx2.to.mono ex1))
theorem LC.lSL {C : Cc} {E : List O} {M M1 : Mem} {elt tg iter : Expr} {scope : Scope} {own : List (Str × Nat)} {n : Nat} {it : Nat → O} {inv : Mem → Prop} {v : Nat → D} {M_ : Nat → Mem} (ok : blkC C.N C.sc scope own = true) (nd : C.N.Nodup) (hs : EI C tg iter E M n it M1 inv) (h0 : M_ 0 = M1) (hlen : ∀ i, i ≤ n → (M_ i).length = M1.length) (hinv : ∀ i, i ≤ n → ∀ c, inv (M_ i ++ [c])) (hn : n < 100000) (hl : M.length ≤ M1.length) (hok : LowM (M_ n).length (M_ n))
    (step : ∀ i, i < n → ∃ Ex, (∀ M, EGv (C.blk scope) (own.map (·.2)) tg (it i) (wipeE E (own.map (·.2))) M Ex M) ∧ ∀ c, EV (C.blk scope) elt Ex (M_ i ++ [c]) (.dat (v i)) (M_ (i + 1) ++ [c]))
    (hf : ∀ env x, foldedSetIterable iter env x = pure x := by intro _ _; rfl) : LC C elt tg iter [] scope own E M (.dat (.lst ((List.range n).map v))) (M_ n) :=
  LC.froz (LC.lSC ok nd hs h0 hlen hinv hn step hf) fun h => Ev.frozL h (hlen n (Nat.le_refl n)).symm (by rw [hlen n (Nat.le_refl n)]; exact hl) hok
end
section
variable {g : Pg}
theorem CS.eqNV {C : Cc} {M : Mem} {o : O} {m m' : List (List Int)} (hv : View M o (lM m)) : CS C .Eq o (.dat (lM m')) M (.dat (.bl (decide (m = m')))) M := ⟨rEqD C.g.K, fun X hX => hX.K ▸ op_eqD (X := X) (hu64 hX), fun I H adr σ E v w Q s hv' hw q =>
  ⟨pN m, pN m', rep_dp (Ex.refl H) (py_N m) (view_rep s.sto s.ex (fun _ _ _ _ _ => rfl) hv hv'), rep_dp s.ex (py_N m') hw, shaped_N m, shaped_N m', by
    rw [show PyData.eqv (pN m) (pN m') = decide (m = m') from eqv_W m m']
    exact q _ I H adr s Grow.refl (.bl _)⟩⟩
theorem shaped_W (v : List Int) : SeqAt.shaped (pW v) = true := by
  unfold SeqAt.shaped
  have a : (pW v).canLay0 = true := lay_ints v
  have b : (pW v).depth ≤ 64 := by
    have z := dep_ints v
    show PyData.depthAll (v.map .int) + 1 ≤ 64
    omega
  rw [a, decide_eq_true b, Bool.and_self]
theorem py_W (v : List Int) : Py (lV v) (pW v) := .lst (pys_int v)
theorem CS.eqL {C : Cc} {M : Mem} {v w : List Int} : CS C .Eq (.dat (lV v)) (.dat (lV w)) M (.dat (.bl (decide (v = w)))) M := ⟨rEqD C.g.K, fun X hX => hX.K ▸ op_eqD (X := X) (hu64 hX), fun I H adr σ E x y Q s hv hw q =>
  ⟨pW v, pW w, rep_dp s.ex (py_W v) hv, rep_dp s.ex (py_W w) hw, shaped_W v, shaped_W w, by
    rw [show PyData.eqv (pW v) (pW w) = decide (v = w) from eqv_ints v w]
    exact q _ I H adr s Grow.refl (.bl _)⟩⟩
theorem CS.neL {C : Cc} {M : Mem} {v w : List Int} : CS C .NotEq (.dat (lV v)) (.dat (lV w)) M (.dat (.bl (!decide (v = w)))) M := ⟨rNeD C.g.K, fun X hX => hX.K ▸ op_neD (X := X) (hu64 hX), fun I H adr σ E x y Q s hv hw q =>
  ⟨pW v, pW w, rep_dp s.ex (py_W v) hv, rep_dp s.ex (py_W w) hw, shaped_W v, shaped_W w, by
    rw [show PyData.eqv (pW v) (pW w) = decide (v = w) from eqv_ints v w]
    exact q _ I H adr s Grow.refl (.bl _)⟩⟩
theorem cel_view {M : Mem} {k : Nat} {m : List (List Int)} (h : M[k]? = some (cel m)) : View M (.adr k) (lM m) := .cel h (Views.ints _)
/-- numbers drawn one behind the other -/
def spS (S : SS) (m : Int) : Nat → SS
  | 0 => S
  | i + 1 => drS (spS S m i) m
def spL (S : SS) (l m : Int) (n : Nat) : List Int := (List.range n).map fun i => l + drV (spS S m i) m
theorem spS_gd {S : SS} {m : Int} (h : Gd S) (hm : 0 < m) : ∀ n, Gd (spS S m n)
  | 0 => h
  | n + 1 => (spS_gd h hm n).dr hm
theorem spL_len {S : SS} {l m : Int} {n : Nat} : (spL S l m n).length = n := by
  unfold spL
  rw [List.length_map, List.length_range]
theorem spL_in {S : SS} {l m : Int} {n : Nat} (hm : 0 < m) : ∀ y ∈ spL S l m n, l ≤ y ∧ y < l + m := fun y hy => by
  obtain ⟨i, _, rfl⟩ := List.mem_map.mp hy
  have := drV_in (spS S m i) hm
  omega
theorem LC.spans {C : Cc} {E : List O} {L : Mem} {S : SS} {elt tg iter : Expr} {scope : Scope} {own : List (Str × Nat)} {n : Nat} {it : Nat → O} {inv : Mem → Prop} {l m : Int} (hG : Gd S) (hm : 0 < m) (ok : blkC C.N C.sc scope own = true) (nd : C.N.Nodup) (hs : EI C tg iter E (MS S ++ L) n it (MS S ++ L) inv) (hinv : ∀ M, inv M) (hn : n < 100000) (hL : LowM (2 + L.length) L)
    (step : ∀ i, i < n → ∃ Ex, (∀ M, EGv (C.blk scope) (own.map (·.2)) tg (it i) (wipeE E (own.map (·.2))) M Ex M) ∧ ∀ S' c, Gd S' → EV (C.blk scope) elt Ex (MS S' ++ (L ++ [c])) (.dat (.int (l + drV S' m))) (MS (drS S' m) ++ (L ++ [c])))
    (hf : ∀ env x, foldedSetIterable iter env x = pure x := by intro _ _; rfl) : LC C elt tg iter [] scope own E (MS S ++ L) (.dat (lV (spL S l m n))) (MS (spS S m n) ++ L) := by
  have hl : ∀ S' : SS, (MS S' ++ L).length = 2 + L.length := fun S' => by
    show L.length + 1 + 1 = _
    omega
  have key := LC.lSL (C := C) (E := E) (M := MS S ++ L) (elt := elt) (tg := tg) (iter := iter) (scope := scope) (own := own) (M_ := fun i => MS (spS S m i) ++ L) (v := fun i => .int (l + drV (spS S m i) m)) ok nd hs rfl (fun i _ => by rw [hl, hl]) (fun _ _ _ => hinv _) hn (Nat.le_refl _) (by rw [hl]; exact lowS (by omega) hL) (fun i hi => by
    obtain ⟨Ex, h1, h2⟩ := step i hi
    refine ⟨Ex, h1, fun c => ?_⟩
    have := h2 (spS S m i) c (spS_gd hG hm i)
    rw [← List.append_assoc, ← List.append_assoc] at this
    exact this) hf
  unfold spL
  rw [← lV_map]
  exact key
end
/-! ### rows led stay within -/
section
theorem led_in {x : List Int} {m : List (List Int)} {w : Nat} (hw : ∀ q ∈ m, q.length = w) : InS m fun j => (ledV x m w).getD j 0 := by
  have go : ∀ n, n ≤ m.length → InS m fun i => ((List.range n).map fun k => x.getD k 0 * gE m k i).sum := fun n => by
    induction n with
    | zero => exact fun _ => InS.zero
    | succ n ih =>
      intro hn
      refine ((ih (by omega)).add ((InS.ix (l := m) (i := n) (by omega)).smul (k := x.getD n 0))).congr fun j => ?_
      rw [List.range_succ, List.map_append, List.sum_append, List.map_singleton, List.sum_singleton]
  refine (go m.length (Nat.le_refl _)).congr fun j => ?_
  unfold ledV
  by_cases hj : j < w
  · rw [range_get hj]
  · rw [range_out (by omega)]
    have : ∀ l : List Nat, (l.map fun k => x.getD k 0 * gE m k j).sum = 0 := fun l => by
      induction l with
      | nil => rfl
      | cons a l ih => rw [List.map_cons, List.sum_cons, ih, gE_wide hw (by omega), Int.mul_zero]; rfl
    exact this _
theorem led_len {x : List Int} {m : List (List Int)} {w : Nat} : (ledV x m w).length = w := by
  unfold ledV
  rw [List.length_map, List.length_range]
theorem Sub.app {l l2 : List (List Int)} {r : List Int} (h : Sub l l2) (hr : InS l2 fun j => r.getD j 0) : Sub (l ++ [r]) l2 := fun q hq => by
  rcases List.mem_append.mp hq with hq | hq
  · exact h q hq
  · rw [List.mem_singleton.mp hq]
    exact hr
theorem Sub.mono {l l2 : List (List Int)} (h : ∀ q ∈ l, q ∈ l2) : Sub l l2 := fun q hq => InS.mem (h q hq)
end
end
section
/-! ### what is handed -/
section
theorem rows_elt {C : Cc} {d : D} {m : List (List Int)} (h : Sq d m) : ∃ ds, seqD d = some ds ∧ ds.length = m.length ∧ ∀ i, (hi : i < ds.length) → seqD ds[i] = some ((m.getD i []).map D.int) := by
  obtain ⟨ds, hs, hp⟩ := h
  have hl := Paired.length hp
  refine ⟨ds, hs, hl, fun i hi => ?_⟩
  have hm : i < m.length := by omega
  obtain ⟨a, ha, hq⟩ := paired_at hp (List.getElem?_eq_getElem hm)
  rw [List.getElem?_eq_getElem hi] at ha
  cases ha
  rw [hq, List.getD_eq_getElem?_getD, List.getElem?_eq_getElem hm]
  rfl
/-- [tuple(x) for x in rows] -/
theorem LC.tupD {C : Cc} {E : List O} {M : Mem} {d : D} {m : List (List Int)} {iter : Expr} {jx : Nat} {own : List (Str × Nat)} {sc : Scope} {x : Str} {p p1 p2 p3 : Pos} (W : Wd C.g) (h : Sq d m) (hz : m.length < 100000) (ok : blkC C.N C.sc sc own = true) (nd : C.N.Nodup) (ho : own.map (·.2) = [jx]) (hi : EV C iter E M (.dat d) M)
    (hN : C.N[jx]? = some x := by rfl) (hx : Loc (C.blk sc).sc x := by first | exact Or.inl rfl | exact Or.inr rfl) (hf' : (C.blk sc).fn x = true ∨ (C.blk sc).sc.names.lookup x = some .local := by first | exact .inl rfl | exact .inr rfl)
    (hf : ∀ env x, foldedSetIterable iter env x = pure x := by intro _ _; rfl) (hgl : (C.blk sc).sc.names.lookup ("tuple" : Str) = some .globalImplicit := by rfl) (hE : ∀ y, ((wipeE E [jx]).set jx (.dat y))[jx]? = some (.dat y) := by intro _; rfl)
    (hd : (x == ("__debug__" : Str)) = false := by decide) (hcd : (x == ("__classdict__" : Str)) = false := by decide) (hv : Vis (C.blk sc).sc x := by first | exact Or.inl rfl | exact Or.inr (Or.inl rfl) | exact Or.inr (Or.inr rfl)) : LC C (.Call (.Name "tuple" p1) [.Name x p2] [] p3) (.Name x p) iter [] sc own E M (.dat (.lst (m.map tV))) M := by
  obtain ⟨ds, hs, hl, hq⟩ := rows_elt (C := C) h
  have hmem : ∀ y ∈ ds, ∃ q : List Int, seqD y = some (q.map D.int) := fun y hy => by
    obtain ⟨i, hi, rfl⟩ := List.getElem_of_mem hy
    exact ⟨_, hq i hi⟩
  have key := LC.lM jx (C := C) (E := E) (M := M) (x := x) (p := p) (iter := iter) (elt := .Call (.Name "tuple" p1) [.Name x p2] [] p3) (scope := sc) (own := own) (xs := ds) (f := fun e => e) (g := fun e => .tup ((seqD e).getD [])) ok nd ho hi (by rw [hs, List.map_id']) (Nat.le_refl _) OkM.refl (by omega) (fun y hy M => by
    obtain ⟨q, hq⟩ := hmem y hy
    rw [hq]
    exact EV.tuple (EV.nm jx hN (hE y) (by intro z; cases z) hv hd hcd) hq W.b.tuple rfl hgl) hN hx hf' hf
  have e : ds.map (fun e => D.tup ((seqD e).getD [])) = m.map tV := by
    refine List.ext_getElem (by rw [List.length_map, List.length_map]; omega) fun i h1 h2 => ?_
    rw [List.length_map] at h1 h2
    rw [List.getElem_map, List.getElem_map, hq i h1, List.getD_eq_getElem?_getD, List.getElem?_eq_getElem h2]
    rfl
  rw [e] at key
  exact key
def celT (m : List (List Int)) : Option (List O) := some ((m.map tV).map O.dat)
theorem LC.outT {C : Cc} {E : List O} {pre : Mem} {d : D} {m : List (List Int)} {iter : Expr} {jx : Nat} {own : List (Str × Nat)} {sc : Scope} {x : Str} {p p1 p2 p3 : Pos} (W : Wd C.g) (h : Sq d m) (hz : m.length < 100000) (ok : blkC C.N C.sc sc own = true) (nd : C.N.Nodup) (ho : own.map (·.2) = [jx]) (hi : EV C iter E pre (.dat d) pre)
    (hN : C.N[jx]? = some x := by rfl) (hx : Loc (C.blk sc).sc x := by first | exact Or.inl rfl | exact Or.inr rfl) (hf' : (C.blk sc).fn x = true ∨ (C.blk sc).sc.names.lookup x = some .local := by first | exact .inl rfl | exact .inr rfl)
    (hf : ∀ env x, foldedSetIterable iter env x = pure x := by intro _ _; rfl) (hgl : (C.blk sc).sc.names.lookup ("tuple" : Str) = some .globalImplicit := by rfl) (hE : ∀ y, ((wipeE E [jx]).set jx (.dat y))[jx]? = some (.dat y) := by intro _; rfl)
    (hd : (x == ("__debug__" : Str)) = false := by decide) (hcd : (x == ("__classdict__" : Str)) = false := by decide) (hv : Vis (C.blk sc).sc x := by first | exact Or.inl rfl | exact Or.inr (Or.inl rfl) | exact Or.inr (Or.inr rfl)) : LC C (.Call (.Name "tuple" p1) [.Name x p2] [] p3) (.Name x p) iter [] sc own E pre (.adr pre.length) (pre ++ [celT m]) := by
  obtain ⟨ds, hs, hlen, hq⟩ := rows_elt (C := C) h
  have tk : ∀ k, (hk : k < m.length) → (some (((m.take k).map tV).map O.dat ++ [O.dat (tV m[k])]) : Option (List O)) = celT (m.take (k + 1)) := fun k hk => by
    show some _ = some _
    rw [List.take_succ_eq_append_getElem hk, List.map_append, List.map_append]
    rfl
  have key := LC.lX (C := C) (E := E) (M := pre) (p := p) (x := x) (elt := .Call (.Name "tuple" p1) [.Name x p2] [] p3) (scope := sc) (own := own) jx (xs := ds) (f := fun e => e) (M1 := pre) (fun k => pre ++ [celT (m.take k)]) (fun k => ((m.take k).map tV).map O.dat) ok nd ho hi (by rw [hs, List.map_id']) rfl rfl (fun i hi' => by
    have hm : i < m.length := by omega
    have hqi := hq i hi'
    have e : m.getD i [] = m[i] := by rw [List.getD_eq_getElem?_getD, List.getElem?_eq_getElem hm]; rfl
    rw [e] at hqi
    exact ⟨.dat (tV m[i]), pre ++ [celT (m.take i)], EV.tuple (EV.nm jx hN (hE _) (by intro z; cases z) hv hd hcd) hqi W.b.tuple rfl hgl, end_get, by rw [List.length_map, List.length_map, List.length_take]; omega, by rw [end_set, tk i hm], Option.some.inj (tk i hm).symm⟩) hN hx hf' hf
  rw [hlen, List.take_length] at key
  exact key
variable {g : Pg}
inductive GivB (m : List (List Int)) : O → Mem → Prop
  | l : GivB m (.adr 2) [cel m]
  | t : GivB m (.adr 2) [celT m]
  | d : GivB m (.dat (tM m)) []
theorem fn_given (W : Wd g) : FN g "_law_given" 2 (fun os M o M' => os.length = 2 ∧ Run g n_law_given s_law_given 1 os M o M') := FN.run (ps := ["state", "rows"]) W.t_law_given c_law_given (fun _ _ _ _ _ _ us hl => match us, hl with | [_, _], _ => rfl)
theorem sq_tl {m : List (List Int)} : Sq (.lst (m.map tV)) m := ⟨_, rfl, paired_tM m⟩
theorem given_A (W : Wd g) {S : SS} {d : D} {m : List (List Int)} (hG : Gd S) (h : Sq d m) (hz : m.length < 100000) : ∃ e, Sq e m ∧ Run g n_law_given s_law_given 1 [.adr 1, .dat d] (MS S) (.dat e) (MS (drS S 3)) := by
  obtain ⟨v1, v2⟩ := drV_in S (m := 3) (by decide)
  let E : O → List O := fun w => [.adr 1, .dat d, w, .no]
  have st : ∀ {o : O}, SB (mkC g n_law_given s_law_given 1) ((defBody s_law_given).drop 1) (E (.dat (.int (drV S 3)))) (MS (drS S 3)) (.rt o (MS (drS S 3))) → LowO 2 o → Run g n_law_given s_law_given 1 [.adr 1, .dat d] (MS S) o (MS (drS S 3)) := fun h hl => by
    refine ⟨Nat.le_refl _, hl, lowS (L := []) (Nat.succ_pos 1) LowM.nil, [], ?_⟩
    exact SB.cons (E1 := E (.dat (.int (drV S 3)))) (M1 := MS (drS S 3)) (ST.set 2 (EV.draw0 W hG (by decide) (by decide) (EV.nm 0) EV.int) c_law_given.nd) (by rw [List.append_nil]; exact h)
  by_cases h0 : drV S 3 = 0
  · exact ⟨lM m, sq_l, st (SB.guard (k := true) (ET.to (ET.cm (EV.nm 2) EV.int CS.eqI) (decide_eq_true h0)) (fun _ => SB.one (ST.ret (sq_lists (jx := 3) (own := [("row", 3)]) W h hz (by rfl) c_law_given.nd rfl (EV.nm 1)))) (fun z => nomatch z)) True.intro⟩
  · by_cases h1 : drV S 3 = 1
    · exact ⟨.lst (m.map tV), sq_tl, st (SB.guard (k := false) (ET.to (ET.cm (EV.nm 2) EV.int CS.eqI) (decide_eq_false h0)) (fun z => nomatch z) (fun _ => SB.guard (k := true) (ET.to (ET.cm (EV.nm 2) EV.int CS.eqI) (decide_eq_true h1)) (fun _ => SB.one (ST.ret (LC.ev (LC.tupD (jx := 3) (own := [("row", 3)]) W h hz (by rfl) c_law_given.nd rfl (EV.nm 1))))) (fun z => nomatch z))) True.intro⟩
    · exact ⟨tM m, sq_t, st (SB.guard (k := false) (ET.to (ET.cm (EV.nm 2) EV.int CS.eqI) (decide_eq_false h0)) (fun z => nomatch z) (fun _ => SB.guard (k := false) (ET.to (ET.cm (EV.nm 2) EV.int CS.eqI) (decide_eq_false h1)) (fun z => nomatch z) (fun _ => SB.one (ST.ret (EV.tuple (LC.ev (LC.tupD (jx := 3) (own := [("row", 3)]) W h hz (by rfl) c_law_given.nd rfl (EV.nm 1))) rfl W.b.tuple))))) True.intro⟩
theorem given_B (W : Wd g) {S : SS} {d : D} {m : List (List Int)} (hG : Gd S) (h : Sq d m) (hz : m.length < 100000) : ∃ o N, GivB m o N ∧ Run g n_law_given s_law_given 1 [.adr 1, .dat d] (MS S) o (MS (drS S 3) ++ N) := by
  obtain ⟨v1, v2⟩ := drV_in S (m := 3) (by decide)
  let E : O → List O := fun w => [.adr 1, .dat d, w, .no]
  have st : ∀ {o : O} {N : Mem}, SB (mkC g n_law_given s_law_given 1) ((defBody s_law_given).drop 1) (E (.dat (.int (drV S 3)))) (MS (drS S 3)) (.rt o (MS (drS S 3) ++ N)) → GivB m o N → ∃ o N, GivB m o N ∧ Run g n_law_given s_law_given 1 [.adr 1, .dat d] (MS S) o (MS (drS S 3) ++ N) := fun {o N} h hl => by
    have hN : (MS (drS S 3) ++ N).length = 2 + N.length := by
      show N.length + 1 + 1 = _
      omega
    refine ⟨o, N, hl, by rw [hN]; show 2 ≤ _; omega, ?_, ?_, [], ?_⟩
    · rw [hN]
      cases hl
      · show 2 < 2 + 1
        omega
      · show 2 < 2 + 1
        omega
      · exact True.intro
    · rw [hN]
      refine lowS (by omega) ?_
      cases hl
      · exact LowM.dat (ds := m.map lV) LowM.nil
      · exact LowM.dat (ds := m.map tV) LowM.nil
      · exact LowM.nil
    · exact SB.cons (E1 := E (.dat (.int (drV S 3)))) (M1 := MS (drS S 3)) (ST.set 2 (EV.draw0 W hG (by decide) (by decide) (EV.nm 0) EV.int) c_law_given.nd) (by rw [List.append_nil]; exact h)
  by_cases h0 : drV S 3 = 0
  · exact st (SB.guard (k := true) (ET.to (ET.cm (EV.nm 2) EV.int CS.eqI) (decide_eq_true h0)) (fun _ => SB.one (ST.ret (LC.ev (LC.outC (pre := MS (drS S 3)) (jx := 3) (own := [("row", 3)]) W h hz (by rfl) c_law_given.nd rfl (EV.nm 1))))) (fun z => nomatch z)) .l
  · by_cases h1 : drV S 3 = 1
    · exact st (SB.guard (k := false) (ET.to (ET.cm (EV.nm 2) EV.int CS.eqI) (decide_eq_false h0)) (fun z => nomatch z) (fun _ => SB.guard (k := true) (ET.to (ET.cm (EV.nm 2) EV.int CS.eqI) (decide_eq_true h1)) (fun _ => SB.one (ST.ret (LC.ev (LC.outT (pre := MS (drS S 3)) (jx := 3) (own := [("row", 3)]) W h hz (by rfl) c_law_given.nd rfl (EV.nm 1))))) (fun z => nomatch z))) .t
    · exact st (N := []) (SB.guard (k := false) (ET.to (ET.cm (EV.nm 2) EV.int CS.eqI) (decide_eq_false h0)) (fun z => nomatch z) (fun _ => SB.guard (k := false) (ET.to (ET.cm (EV.nm 2) EV.int CS.eqI) (decide_eq_false h1)) (fun z => nomatch z) (fun _ => SB.one (by rw [List.append_nil]; exact ST.ret (EV.tuple (LC.ev (LC.tupD (jx := 3) (own := [("row", 3)]) W h hz (by rfl) c_law_given.nd rfl (EV.nm 1))) rfl W.b.tuple))))) .d
end
end
section
/-! ### what is passed -/
section
variable {g : Pg}
theorem flat_rep {d : D} : ∀ n : Nat, (List.replicate n [d]).flatten = List.replicate n d
  | 0 => rfl
  | n + 1 => by
    rw [List.replicate_succ, List.replicate_succ, List.flatten_cons, flat_rep n]
    rfl
theorem EV.zeros {C : Cc} {E : List O} {M M' : Mem} {b : Expr} {p0 p1 pos : Pos} {j w : Nat} (h : EV C b E M (.dat (.int (w : Int))) M') (hb : EV C (.List [.Constant (.int 0) j p0] p1) E M (.dat (.lst [.int 0])) M) (hw : w ≤ 100) : EV C (.BinOp (.List [.Constant (.int 0) j p0] p1) .Mult b pos) E M (.dat (lV (List.replicate w 0))) M' := by
  have e : lV (List.replicate w (0 : Int)) = .lst (List.replicate ((w : Int)).toNat [D.int 0]).flatten := by
    rw [Int.toNat_natCast, flat_rep]
    show D.lst ((List.replicate w (0 : Int)).map D.int) = _
    rw [List.map_replicate]
  rw [e]
  exact EV.bin hb h (BS.mulL (i := (w : Int)) (ds := [.int 0]) (M := M') (by omega) (by omega) (by decide))
structure PT where
  s : SS
  o : List (List Int)
/-- rows that tell the same as F -/
structure PI (F : List (List Int)) (w : Nat) (lim : Int) (x : PT) : Prop where
  gd : Gd x.s
  l8 : x.o.length ≤ 8
  ow : ∀ q ∈ x.o, q.length = w
  ob : ∀ q ∈ x.o, ∀ y ∈ q, (y.natAbs : Int) ≤ lim
  s1 : Sub x.o F
  s2 : Sub F x.o
abbrev paB : List Stmt := defBody s_law_passed
abbrev paC (g : Pg) : Cc := mkC g n_law_passed s_law_passed 2
abbrev paE (d : D) (w : Nat) (lim : Int) (o k row : O) : List O := [.adr 1, .dat d, .dat (.int (w : Int)), .dat (.int lim), o, k, row, .no, .no]
theorem abs_ev {C : Cc} {E : List O} {M : Mem} {v : List Int} {iter : Expr} {jx : Nat} {own : List (Str × Nat)} {sc : Scope} {x : Str} {p p1 p2 p3 pos : Pos} (W : Wd C.g) (hz : v.length < 100000) (ok : blkC C.N C.sc sc own = true) (nd : C.N.Nodup) (ho : own.map (·.2) = [jx]) (hi : EV C iter E M (.dat (lV v)) M)
    (hN : C.N[jx]? = some x := by rfl) (hx : Loc (C.blk sc).sc x := by first | exact Or.inl rfl | exact Or.inr rfl) (hf' : (C.blk sc).fn x = true ∨ (C.blk sc).sc.names.lookup x = some .local := by first | exact .inl rfl | exact .inr rfl)
    (hf : ∀ env x, foldedSetIterable iter env x = pure x := by intro _ _; rfl) (hgl : (C.blk sc).sc.names.lookup ("abs" : Str) = some .globalImplicit := by rfl) (hE : ∀ y, ((wipeE E [jx]).set jx (.dat y))[jx]? = some (.dat y) := by intro _; rfl)
    (hd : (x == ("__debug__" : Str)) = false := by decide) (hcd : (x == ("__classdict__" : Str)) = false := by decide) (hv : Vis (C.blk sc).sc x := by first | exact Or.inl rfl | exact Or.inr (Or.inl rfl) | exact Or.inr (Or.inr rfl)) : EV C (.ListComp (.Call (.Name "abs" p1) [.Name x p2] [] p3) [⟨.Name x p, iter, [], 0⟩] sc pos) E M (.dat (.lst ((v.map fun y => (y.natAbs : Int)).map D.int))) M :=
  EV.to (LC.ev (pos := pos) (LC.lM jx (C := C) (E := E) (M := M) (x := x) (p := p) (iter := iter) (elt := .Call (.Name "abs" p1) [.Name x p2] [] p3) (scope := sc) (own := own) (xs := v) (f := D.int) (g := fun y => .int (y.natAbs : Int)) ok nd ho hi rfl (Nat.le_refl _) OkM.refl hz (fun y hy M => EV.abs (EV.nm jx hN (hE _) (by intro z; cases z) hv hd hcd) W.b.abs rfl hgl) hN hx hf' hf)) (by rw [List.map_map]; rfl)
theorem pass_do (W : Wd g) {F : List (List Int)} {w : Nat} {lim : Int} {d : D} (hd : Sq d F) (hF : F.length ≤ 8) (hFw : ∀ q ∈ F, q.length = w) (hw : 0 < w) (hw2 : w ≤ 8) {x : PT} (I : PI F w lim x) (k : O) :
    ∃ x', (∃ E2, Fg E2 (paE d w lim (.adr 2) .no .no) ∧ SB (paC g) (bodyOf (paB.getD 1 (.Pass ⟨0, 0, 0, 0⟩))) (paE d w lim (.adr 2) k .no) (MS x.s ++ [cel x.o]) (.nx E2 (MS x'.s ++ [cel x'.o]))) ∧ PI F w lim x' := by
  let xs := spL x.s (-1) 3 F.length
  let s1 := spS x.s 3 F.length
  have g1 : Gd s1 := spS_gd I.gd (by decide) _
  let r := ledV xs F w
  have hF' : ∀ row, Fg (paE d w lim (.adr 2) k row) (paE d w lim (.adr 2) .no .no) := fun row => Fg.cons (Fg.cons (Fg.cons (Fg.cons (Fg.cons (Fg.no (Fg.no Fg.refl))))))
  obtain ⟨m, m1, m2⟩ := max_ex (ns := r.map fun y => (y.natAbs : Int)) (fun z => by have := congrArg List.length z; rw [List.length_map, led_len] at this; simp at this; omega)
  obtain ⟨ds, hds, hdl, _⟩ := rows_elt (C := paC g) hd
  have first : ∀ {r' : Out}, SB (paC g) ((bodyOf (paB.getD 1 (.Pass ⟨0, 0, 0, 0⟩))).drop 1) (paE d w lim (.adr 2) k (.dat (lV r))) (MS s1 ++ [cel x.o]) r' → SB (paC g) (bodyOf (paB.getD 1 (.Pass ⟨0, 0, 0, 0⟩))) (paE d w lim (.adr 2) k .no) (MS x.s ++ [cel x.o]) r' := fun {r'} h => by
    refine SB.cons (E1 := paE d w lim (.adr 2) k (.dat (lV r))) (M1 := MS s1 ++ [cel x.o]) (ST.set 6 (EV.c3 (ok_law_led W) (LC.ev (LC.spans (L := [cel x.o]) (S := x.s) (l := -1) (m := 3) (own := [("other", 7)]) (n := F.length) I.gd (by decide) (by rfl) c_law_passed.nd (hdl ▸ EI.seq (EV.nm 1) hds) (fun _ => True.intro) (by omega) (LowM.dat (ds := x.o.map lV) LowM.nil) (fun i hi => ⟨_, fun M => EGv.nm 7 c_law_passed.nd (by simp), fun S' c hS => EV.span (L := [cel x.o] ++ [c]) (S := S') (l := -1) (h := 1) W hS (by decide) (by decide) (EV.nm 0) (EV.neg EV.int) EV.int⟩))) (EV.nm 1) (EV.nm 2) ⟨xs, F, w, rfl, hd, rfl, spL_len, by omega, by omega, hFw, fun y hy => by have := spL_in (S := x.s) (l := -1) (m := 3) (by decide) y hy; omega, rfl⟩) c_law_passed.nd) h
  by_cases h8 : (x.o.length : Int) < 8
  · by_cases hm : m ≤ lim
    · refine ⟨⟨s1, x.o ++ [r]⟩, ⟨paE d w lim (.adr 2) k (.dat (lV r)), hF' _, first (SB.one (ST.yes (ET.to (EW.et (EW.and (k1 := true) (k2 := true) (ET.to (ET.cm (EV.to (EV.lenC (nn := 2) (ps := (x.o.map lV).map O.dat) (EV.nm 4) rfl W.b.len) (by rw [cel_len])) EV.int CS.ltI) (decide_eq_true h8)) (fun _ => EW.and1 (ET.to (ET.cm (EV.maxL (ns := r.map fun y => (y.natAbs : Int)) (abs_ev (jx := 8) (own := [("x", 8)]) W (by rw [led_len]; omega) (by rfl) c_law_passed.nd rfl (EV.nm 6)) m1 m2 W.b.max) (EV.nm 3) CS.leI) (decide_eq_true hm))) (fun z => nomatch z))) rfl) (SB.one (ST.to (ST.exp (EV.append (n := 2) (ps := (x.o.map lV).map O.dat) (EV.nm 4) (EV.nm 6) rfl rfl (by rw [cel_len]; omega))) ?_))))⟩, ?_⟩
      · show Out.nx _ (MS s1 ++ [_]) = Out.nx _ (MS s1 ++ [_])
        rw [← cel_app]
      · refine ⟨g1, ?_, fun q hq => ?_, fun q hq y hy => ?_, I.s1.app (led_in hFw), I.s2.trans (Sub.mono fun q hq => List.mem_append_left _ hq)⟩
        · show (x.o ++ [r]).length ≤ 8
          rw [List.length_append, List.length_singleton]
          omega
        · rcases List.mem_append.mp hq with hq | hq
          · exact I.ow q hq
          · rw [List.mem_singleton.mp hq]
            exact led_len
        · rcases List.mem_append.mp hq with hq | hq
          · exact I.ob q hq y hy
          · rw [List.mem_singleton.mp hq] at hy
            have := m2 _ (List.mem_map_of_mem hy)
            omega
    · refine ⟨⟨s1, x.o⟩, ⟨paE d w lim (.adr 2) k (.dat (lV r)), hF' _, first (SB.one (ST.no (ET.to (EW.et (EW.and (k1 := true) (k2 := false) (ET.to (ET.cm (EV.to (EV.lenC (nn := 2) (ps := (x.o.map lV).map O.dat) (EV.nm 4) rfl W.b.len) (by rw [cel_len])) EV.int CS.ltI) (decide_eq_true h8)) (fun _ => EW.and1 (ET.to (ET.cm (EV.maxL (ns := r.map fun y => (y.natAbs : Int)) (abs_ev (jx := 8) (own := [("x", 8)]) W (by rw [led_len]; omega) (by rfl) c_law_passed.nd rfl (EV.nm 6)) m1 m2 W.b.max) (EV.nm 3) CS.leI) (decide_eq_false hm))) (fun z => nomatch z))) rfl) SB.nil))⟩, ⟨g1, I.l8, I.ow, I.ob, I.s1, I.s2⟩⟩
  · exact ⟨⟨s1, x.o⟩, ⟨paE d w lim (.adr 2) k (.dat (lV r)), hF' _, first (SB.one (ST.no (ET.to (EW.et (EW.and (k1 := false) (k2 := false) (ET.to (ET.cm (EV.to (EV.lenC (nn := 2) (ps := (x.o.map lV).map O.dat) (EV.nm 4) rfl W.b.len) (by rw [cel_len])) EV.int CS.ltI) (decide_eq_false h8)) (fun z => nomatch z) (fun _ => rfl))) rfl) SB.nil))⟩, ⟨g1, I.l8, I.ow, I.ob, I.s1, I.s2⟩⟩
theorem fn_passed (W : Wd g) : FN g "_law_passed" 3 (fun os M o M' => os.length = 4 ∧ Run g n_law_passed s_law_passed 2 os M o M') := FN.run (ps := ["state", "rows", "wide", "limit"]) W.t_law_passed c_law_passed (fun _ _ _ _ _ _ us hl => match us, hl with | [_, _, _, _], _ => rfl)
theorem passed_A (W : Wd g) {S : SS} {F : List (List Int)} {w : Nat} {lim : Int} {d : D} (hG : Gd S) (hd : Sq d F) (hF : F.length ≤ 8) (hFw : ∀ q ∈ F, q.length = w) (hFb : ∀ q ∈ F, ∀ y ∈ q, (y.natAbs : Int) ≤ lim) (hw : 0 < w) (hw2 : w ≤ 8) (hlim : 0 ≤ lim) :
    ∃ x', PI F w lim x' ∧ x'.o ≠ [] ∧ Run g n_law_passed s_law_passed 2 [.adr 1, .dat d, .dat (.int (w : Int)), .dat (.int lim)] (MS S) (.dat (lM x'.o)) (MS x'.s) := by
  obtain ⟨v1, v2⟩ := drV_in S (m := 3) (by decide)
  obtain ⟨n, hn⟩ : ∃ n : Nat, (n : Int) = drV S 3 := ⟨(drV S 3).toNat, by omega⟩
  have I0 : PI F w lim ⟨drS S 3, F⟩ := ⟨hG.dr (by decide), hF, hFw, hFb, Sub.refl, Sub.refl⟩
  obtain ⟨f, f0, f1, f2⟩ := chain (S := PT) (n := n) (I := fun _ x => PI F w lim x) (P := fun i x x' => ∃ E2, Fg E2 (paE d w lim (.adr 2) .no .no) ∧ SB (paC g) (bodyOf (paB.getD 1 (.Pass ⟨0, 0, 0, 0⟩))) (paE d w lim (.adr 2) (.dat (.int (i : Int))) .no) (MS x.s ++ [cel x.o]) (.nx E2 (MS x'.s ++ [cel x'.o]))) (fun i hi x I => pass_do W hd hF hFw hw hw2 I _) ⟨drS S 3, F⟩ I0
  have I1 := f1 n (Nat.le_refl n)
  have pre : ∀ {r : Out}, SB (paC g) (paB.drop 2) (paE d w lim (.adr 2) .no .no) (MS (f n).s ++ [cel (f n).o]) r → SB (paC g) paB (pad n_law_passed [.adr 1, .dat d, .dat (.int (w : Int)), .dat (.int lim)]) (MS S) r := fun {r} h => by
    refine SB.cons (E1 := paE d w lim (.adr 2) .no .no) (M1 := MS S ++ [cel F]) (LC.set 4 (LC.outC (pre := MS S) (jx := 6) (own := [("row", 6)]) W hd (by omega) (by rfl) c_law_passed.nd rfl (EV.nm 1)) rfl rfl (fun env he => sw_true (by rw [he]; rfl) (by rw [he]; rfl) (by rfl) (by rfl))) ?_
    refine SB.cons (E1 := paE d w lim (.adr 2) .no .no) (M1 := MS (f n).s ++ [cel (f n).o]) (ST.forN 5 (n := n) (E_ := fun _ => paE d w lim (.adr 2) .no .no) (M_ := fun k => MS (f k).s ++ [cel (f k).o]) (EI.rng1 (j := (n : Int)) (EV.to (EV.draw (L := [cel F]) (S := S) (m := 3) W hG (by decide) (by decide) (EV.nm 0) EV.int) (by rw [hn])) W.b.range (by omega)) Fg.refl (by rw [f0]) (fun _ _ => True.intro) c_law_passed.nd (fun i hi => by
      rw [atI0_eq]
      exact f2 i hi)) h
  generalize f n = x at I1 pre
  have fin : ∀ o1 : List (List Int), PI F w lim ⟨x.s, o1⟩ → o1 ≠ [] → ∃ y, PI F w lim y ∧ y.o ≠ [] ∧ SB (paC g) (paB.drop 3) (paE d w lim (.adr 2) .no .no) (MS x.s ++ [cel o1]) (.rt (.dat (lM y.o)) (MS y.s ++ [none])) := fun o1 J hne => by
    have hn0 : 0 < o1.length := List.length_pos_iff.mpr hne
    have l8 : o1.length ≤ 8 := J.l8
    obtain ⟨u1, u2⟩ := drV_in x.s (m := 12) (by decide)
    obtain ⟨ct, hct⟩ : ∃ ct : Nat, (ct : Int) = 4 + drV x.s 12 := ⟨(4 + drV x.s 12).toNat, by omega⟩
    obtain ⟨y, T, run⟩ := turned_A W (S := drS x.s 12) (rows := o1) (n := o1.length) (w := w) (ct := ct) (lim := lim) (d := lM o1) (J.gd.dr (by decide)) sq_l rfl hn0 (by omega) hw (by omega) J.ow J.ob (by omega)
    refine ⟨⟨y.s, y.o⟩, ⟨T.gd, by show y.o.length ≤ 8; rw [T.ol]; exact l8, T.ow, T.ob, T.s1.trans J.s1, J.s2.trans T.s2⟩, fun z => by have := T.ol; rw [show y.o = [] from z] at this; simp at this; omega, ?_⟩
    refine SB.fz (jj := 4) (nn := 2) (ds := o1.map lV) rfl rfl (SB.one (ST.ret (EV.ix (i := 0) (d := lM y.o) (d1 := .lst [lM y.o, lM y.t, lM y.b]) (EV.callS (L := [none]) (S := drS x.s 12) (S' := y.s) (d := .lst [lM y.o, lM y.t, lM y.b]) (ds := [lM o1, .int (ct : Int), .int lim]) (fn_turned W) (EA.cons (EV.nm 0) (EA.cons (EV.nm 4) (EA.cons (EV.to (EV.add EV.int (EV.draw (L := [none]) (S := x.s) (m := 12) W J.gd (by decide) (by decide) (EV.nm 0) EV.int)) (by rw [hct])) (EA.cons (EV.nm 3) EA.nil)))) ⟨rfl, run⟩) EV.int rfl)))
  have go : ∃ o1, PI F w lim ⟨x.s, o1⟩ ∧ o1 ≠ [] ∧ ∀ {r : Out}, SB (paC g) (paB.drop 3) (paE d w lim (.adr 2) .no .no) (MS x.s ++ [cel o1]) r → SB (paC g) (paB.drop 2) (paE d w lim (.adr 2) .no .no) (MS x.s ++ [cel x.o]) r := by
    by_cases h0 : x.o = []
    · refine ⟨[List.replicate w 0], ⟨I1.gd, by show 1 ≤ 8; decide, fun q hq => by rw [List.mem_singleton.mp hq, List.length_replicate], fun q hq y hy => by rw [List.mem_singleton.mp hq] at hy; rw [List.eq_of_mem_replicate hy]; simpa using hlim, fun q hq => ?_, fun q hq => ?_⟩, by simp, fun {r} h => ?_⟩
      · rw [List.mem_singleton.mp hq]
        exact InS.zero.congr fun j => rep_zero.symm
      · have := I1.s2 q hq
        rw [h0] at this
        exact InS.cons this
      · refine SB.cons (E1 := paE d w lim (.adr 2) .no .no) (M1 := MS x.s ++ [cel [List.replicate w 0]]) (ST.yes (ET.to (ET.cm (EV.nm 4) (EV.lst (ds := []) EA.nil (by decide)) (CS.eqNV (m := x.o) (m' := []) (cel_view rfl))) (decide_eq_true h0)) (SB.one (ST.to (ST.exp (EV.append (n := 2) (ps := (x.o.map lV).map O.dat) (M2 := MS x.s ++ [cel x.o]) (o := .dat (lV (List.replicate w 0))) (EV.nm 4) (EV.zeros (EV.nm 2) (EV.lst (ds := [.int 0]) (EA.cons EV.int EA.nil) (by decide)) (by omega)) rfl rfl (by rw [cel_len, h0]; decide))) ?_))) h
        rw [h0]
        rfl
    · exact ⟨x.o, I1, h0, fun {r} h => SB.cons (E1 := paE d w lim (.adr 2) .no .no) (M1 := MS x.s ++ [cel x.o]) (ST.no (ET.to (ET.cm (EV.nm 4) (EV.lst (ds := []) EA.nil (by decide)) (CS.eqNV (m := x.o) (m' := []) (cel_view rfl))) (decide_eq_false h0)) SB.nil) h⟩
  obtain ⟨o1, J, hne, h1⟩ := go
  obtain ⟨y, P, hy, h2⟩ := fin o1 J hne
  exact ⟨y, P, hy, Nat.le_refl _, True.intro, lowS (L := []) (Nat.succ_pos 1) LowM.nil, [none], pre (h1 h2)⟩
end
end
section
/-! ### tuple(range(n)); basis and pivots told by a basis -/
section
variable {C : Cc} {E : List O} {M M' : Mem} {a : Expr} {p p2 pos pos2 : Pos}
theorem reps_range {I : Hp} : ∀ l : List Nat, Reps I (l.map fun (i : Nat) => D.int (i : Int)) (l.map fun (i : Nat) => V.int (0 + (i : Int)))
  | [] => .nil
  | i :: l => .cons (by show Rep I (.int (i : Int)) (.int (0 + (i : Int))); rw [Int.zero_add]; exact .int _) (reps_range l)
theorem EV.tupRg {n : Nat} (h : EV C a E M (.dat (.int (n : Int))) M') (hm : Bt C.g "range") (hm2 : Bt C.g "tuple") (hz : n < 100000) (hg : C.sc.names.lookup ("range" : Str) = some .globalImplicit := by rfl) (hg2 : C.sc.names.lookup ("tuple" : Str) = some .globalImplicit := by rfl)
    (na : ∀ env, starEach [.Call (.Name "range" p2) [a] [] pos2] env = (false, eval (.Call (.Name "range" p2) [a] [] pos2) env) :: starEach [] env := by intro _; rfl) (na2 : ∀ env, starEach [a] env = (false, eval a env) :: starEach [] env := by intro _; rfl) :
    EV C (.Call (.Name "tuple" p) [.Call (.Name "range" p2) [a] [] pos2] [] pos) E M (.dat (.tup ((List.range n).map fun (i : Nat) => D.int (i : Int)))) M' :=
  EV.mk (t := tTupRg (tRg1 (UE C a))) (fun X hX => pe_tupRg hX.calm (by show X.env.scope.names.lookup _ = _; rw [hX.sc]; exact hg2) (by rw [hX.mg]; exact hm2) (prg_1 (by show X.env.scope.names.lookup _ = _; rw [hX.sc]; exact hg) (by rw [hX.mg]; exact hm) (ue hX a) (na2 X.env)) (na X.env)) fun I H adr σ Q s q => by
    refine h I H adr σ _ s fun v I1 H1 adr1 s1 g1 v1 => ?_
    cases (show Rep I1 (.int (n : Int)) v from v1)
    refine ⟨_, rfl, ⟨by omega, by omega, by omega, by omega, by omega⟩, fun q0 hq0 => ?_⟩
    have e : rgV 0 (n : Int) = (List.range n).map fun (i : Nat) => V.int (0 + (i : Int)) := by
      unfold rgV
      rw [Int.sub_zero, Int.toNat_natCast]
    rw [e]
    obtain ⟨s2, g2, r2⟩ := s1.tup (ds := (List.range n).map fun (i : Nat) => D.int (i : Int)) hq0 (reps_range _)
    exact q _ _ _ _ s2 (g1.trans g2) r2
end
section
variable {g : Pg}
theorem ok_basis3 (W : Wd g) : FN g "basis" 37 (P1 fun d r => ∃ m B, IsB m B ∧ IsM d m ∧ r = tM (bas B (wd m))) := (ok_basis W).imp fun os M o M' h => by
  obtain ⟨d, r, h1, h2, h3, h4, m, B, b, hd, rfl⟩ := h
  obtain ⟨h, H⟩ := hof_ex b.mx
  obtain ⟨_, q2, q3, q4⟩ := b.of H
  exact ⟨d, _, h1, h2, h3, h4, m, h, hd, H, q3, q4, by rw [q2]⟩
theorem ok_pivots3 (W : Wd g) : FN g "pivots" 37 (P1 fun d r => ∃ m B, IsB m B ∧ IsM d m ∧ r = .tup (B.map fun q => .int (headF q : Int))) := (ok_pivots W).imp fun os M o M' h => by
  obtain ⟨d, r, h1, h2, h3, h4, m, B, b, hd, rfl⟩ := h
  obtain ⟨h, H⟩ := hof_ex b.mx
  obtain ⟨q1, _, q3, _⟩ := b.of H
  obtain ⟨pc, f⟩ := b.hf
  refine ⟨d, _, h1, h2, h3, h4, m, h, hd, H, q3, ?_⟩
  rw [q1]
  refine congrArg D.tup (List.map_congr_left fun q hq => ?_)
  obtain ⟨i, hi, rfl⟩ := List.getElem_of_mem hq
  have e : B[i] = B.getD i [] := by rw [List.getD_eq_getElem?_getD, List.getElem?_eq_getElem hi]; rfl
  rw [e]
  unfold headF
  rw [f.lead_row hi]
  rfl
theorem fit_V (v : List Int) (h : v.length < 100000) : Fit 1 (tV v) := ⟨by rw [List.length_map]; exact h, fun x hx => by
  obtain ⟨i, _, rfl⟩ := List.mem_map.mp hx
  exact True.intro⟩
theorem fit_M {m : List (List Int)} (h : m.length < 100000) (hw : ∀ q ∈ m, q.length < 100000) : Fit 2 (tM m) := ⟨by rw [List.length_map]; exact h, fun x hx => by
  obtain ⟨q, hq, rfl⟩ := List.mem_map.mp hx
  exact fit_V q (hw q hq)⟩
theorem fit_ints {l : List D} (h : l.length < 100000) (hi : ∀ x ∈ l, ∃ i, x = .int i) : Fit 1 (.tup l) := ⟨h, fun x hx => by
  obtain ⟨i, rfl⟩ := hi x hx
  exact True.intro⟩
end
end
section
/-! ### the small law -/
section
variable {g : Pg}
theorem mx_of {m : List (List Int)} {w : Nat} (h0 : m ≠ []) (h8 : m.length ≤ 8) (hw : ∀ q ∈ m, q.length = w) (w0 : 0 < w) (w8 : w ≤ 8) (hb : ∀ q ∈ m, ∀ y ∈ q, (y.natAbs : Int) ≤ 1000000) : Mx m ∧ wd m = w := by
  have e : wd m = w := by
    cases m with
    | nil => exact absurd rfl h0
    | cons r l => exact hw r List.mem_cons_self
  exact ⟨⟨List.length_pos_iff.mpr h0, h8, by omega, by omega, fun r hr => by rw [e]; exact hw r hr, fun r hr x hx => by have := hb r hr x hx; omega⟩, e⟩
theorem vx_of {v : List Int} (h0 : 0 < v.length) (h8 : v.length ≤ 8) (hb : ∀ y ∈ v, (y.natAbs : Int) ≤ 1000000) : Vx v := ⟨h0, h8, fun x hx => by have := hb x hx; omega⟩
theorem bd20 {v : List Int} (hb : ∀ y ∈ v, (y.natAbs : Int) ≤ 1000000) (j : Nat) : (v.getD j 0).natAbs ≤ 2 ^ 20 := by
  have e : (2 : Nat) ^ 20 = 1048576 := by decide
  by_cases hj : j < v.length
  · have := hb _ (mem_getD (a0 := (0 : Int)) hj)
    omega
  · rw [List.getD_eq_getElem?_getD, List.getElem?_eq_none (by omega)]
    exact Nat.zero_le _
abbrev smB : List Stmt := defBody s_law_small
abbrev smC (g : Pg) : Cc := mkC g n_law_small s_law_small 38
abbrev smE (a b c d e f h i j k l m : O) : List O := [.adr 1, a, b, c, d, e, f, h, i, j, k, l, m]
structure SmS where
  s : SS
  l : List (List Int)
theorem small_sums (W : Wd g) {S : SS} {w : Nat} {m : Int} (hG : Gd S) (hm : 0 < m) (hm2 : m < 100) (hw : w < 100) : ∃ x : SmS, Gd x.s ∧ x.l.length ≤ 2 ∧ (∀ c ∈ x.l, c.length = w ∧ ∀ y ∈ c, 0 ≤ y ∧ y < m) ∧ ∀ r, SB (smC g) (smB.drop 4) (smE (.dat (.int (w : Int))) (.dat (.int m)) (.dat (lM x.l)) .no .no .no .no .no .no .no .no .no) (MS x.s ++ [none]) r → SB (smC g) (smB.drop 2) (smE (.dat (.int (w : Int))) (.dat (.int m)) .no .no .no .no .no .no .no .no .no .no) (MS S) r := by
  obtain ⟨v1, v2⟩ := drV_in S (m := 2) (by decide)
  obtain ⟨n, hn⟩ : ∃ n : Nat, (n : Int) = 1 + drV S 2 := ⟨(1 + drV S 2).toNat, by omega⟩
  let E0 : List O := smE (.dat (.int (w : Int))) (.dat (.int m)) (.adr 2) .no .no .no .no .no .no .no .no .no
  obtain ⟨f, f0, f1, f2⟩ := chain (S := SmS) (n := n) (I := fun i x => Gd x.s ∧ x.l.length = i ∧ ∀ c ∈ x.l, c.length = w ∧ ∀ y ∈ c, 0 ≤ y ∧ y < m)
    (P := fun i x x' => SB (smC g) (bodyOf (smB.getD 3 (.Pass ⟨0, 0, 0, 0⟩))) (E0.set 4 (.dat (.int (i : Int)))) (MS x.s ++ [cel x.l]) (.nx (E0.set 4 (.dat (.int (i : Int)))) (MS x'.s ++ [cel x'.l]))) (fun i hi x I => by
      obtain ⟨i1, i2, i3⟩ := I
      refine ⟨⟨spS x.s m w, x.l ++ [spL x.s 0 m w]⟩, SB.one (ST.to (ST.exp (EV.append (n := 2) (ps := (x.l.map lV).map O.dat) (M2 := MS (spS x.s m w) ++ [cel x.l]) (EV.nm 3) (LC.ev (LC.spans (L := [cel x.l]) (S := x.s) (l := 0) (m := m) (own := [("j", 12)]) (n := w) i1 hm (by rfl) c_law_small.nd (EI.rng1 (j := (w : Int)) (EV.nm 1) W.b.range (by omega)) (fun _ => True.intro) (by omega) (LowM.dat (ds := x.l.map lV) LowM.nil) (fun i hi => ⟨_, fun M => EGv.nm 12 c_law_small.nd (by simp), fun S' c hS => EV.to (EV.draw (L := [cel x.l] ++ [c]) (S := S') (m := m) W hS hm (by omega) (EV.nm 0) (EV.nm 2)) (by rw [Int.zero_add])⟩))) rfl rfl (by rw [cel_len]; omega))) ?_), spS_gd i1 hm w, by show (x.l ++ [_]).length = _; rw [List.length_append, List.length_singleton]; omega, fun c hc => ?_⟩
      · show Out.nx _ (MS (spS x.s m w) ++ [_]) = Out.nx _ (MS (spS x.s m w) ++ [_])
        rw [← cel_app]
      · rcases List.mem_append.mp hc with hc | hc
        · exact i3 c hc
        · rw [List.mem_singleton.mp hc]
          refine ⟨spL_len, fun y hy => ?_⟩
          have := spL_in (S := x.s) (l := 0) (n := w) hm y hy
          omega) ⟨drS S 2, []⟩ ⟨hG.dr (by decide), rfl, fun c hc => absurd hc List.not_mem_nil⟩
  obtain ⟨i1, i2, i3⟩ := f1 n (Nat.le_refl n)
  refine ⟨f n, i1, by omega, i3, fun r h => ?_⟩
  refine SB.cons (E1 := E0) (M1 := MS S ++ [some []]) (ST.set 3 (EV.cel (os := []) EA.nil (by decide)) c_law_small.nd) ?_
  refine SB.cons (E1 := E0) (M1 := MS (f n).s ++ [cel (f n).l]) (ST.forN 4 (n := n) (E_ := fun _ => E0) (M_ := fun k => MS (f k).s ++ [cel (f k).l]) (EI.rng1 (j := (n : Int)) (EV.to (EV.add EV.int (EV.draw (L := [some []]) (S := S) (m := 2) W hG (by decide) (by decide) (EV.nm 0) EV.int)) (by rw [hn])) W.b.range (by omega)) Fg.refl (by rw [f0]; rfl) (fun _ _ => True.intro) c_law_small.nd (fun i hi => ?_)) (SB.fz (jj := 3) (nn := 2) (ds := (f n).l.map lV) rfl rfl h)
  rw [atI0_eq]
  exact ⟨_, Fg.cons (Fg.cons (Fg.cons (Fg.cons (Fg.no Fg.refl)))), f2 i hi⟩
/-- what the law asks of each vector of its box -/
theorem small_each (W : Wd g) {S : SS} {w : Nat} {m at_ : Int} {sums F many : List (List Int)} {e sn : D} {e0 : Nat} (hF : SmF sums m w F) (hw : 0 < w) (hw2 : w ≤ 8) (hm : 0 < m) (hs : sums.length < 1000) (hc : ∀ c ∈ sums, c.length = w ∧ ∀ z ∈ c, z.natAbs < 2 ^ 60) (hM : IsM e many) (hwd : wd many = w) (hB : IsB many F) (he0 : e0 ≤ 2000000) (hFb : ∀ i j, (gE F i j).natAbs ≤ 2 ^ e0) {bx : List (List Int)} (hbl : bx.length < 100000) (hb : ∀ v ∈ bx, v.length = w ∧ ∀ y ∈ v, (y.natAbs : Int) ≤ 1000000) :
    ST (smC g) (smB.getD 12 (.Pass ⟨0, 0, 0, 0⟩)) (smE (.dat (.int (w : Int))) (.dat (.int m)) (.dat (lM sums)) .no (.dat sn) (.dat (lM F)) (.dat (lM many)) (.dat e) (.dat (.int at_)) (.dat (lM bx)) .no .no) (MS S ++ [none]) (.nx (smE (.dat (.int (w : Int))) (.dat (.int m)) (.dat (lM sums)) .no (.dat sn) (.dat (lM F)) (.dat (lM many)) (.dat e) (.dat (.int at_)) (.dat (lM bx)) .no .no) (MS S ++ [none])) := by
  let E : O → O → List O := fun k v => smE (.dat (.int (w : Int))) (.dat (.int m)) (.dat (lM sums)) k (.dat sn) (.dat (lM F)) (.dat (lM many)) (.dat e) (.dat (.int at_)) (.dat (lM bx)) v .no
  have hbx : (bx.map lV).length = bx.length := List.length_map _
  refine ST.forN 4 (n := bx.length) (E_ := fun _ => E .no .no) (M_ := fun _ => MS S ++ [none]) (EI.rng1 (j := ((bx.length : Nat) : Int)) (EV.len (EV.nm 10) (show lenD (lM bx) = some bx.length from sq_l.len) W.b.len) W.b.range (by omega)) Fg.refl rfl (fun _ _ => True.intro) c_law_small.nd (fun i hi => ?_)
  rw [atI0_eq]
  have hv := hb _ (mem_getD hi : bx.getD i [] ∈ bx)
  have hix : ixD (lM bx) ((i : Nat) : Int) = some (lV (bx.getD i [])) := by
    refine atI_nat ?_
    rw [List.getElem?_map, List.getElem?_eq_getElem hi, List.getD_eq_getElem?_getD, List.getElem?_eq_getElem hi]
    rfl
  generalize bx.getD i [] = v at hv hix
  obtain ⟨hl, hy⟩ := hv
  have R : RedOk F (wd many) v := by
    rw [hwd]
    exact RedOk.of hF.hf hl hw2 he0 hFb (bd20 hy)
  have hV : ∀ {d : D}, seqD d = some (v.map D.int) → IsV d v := fun h => ⟨vx_of (by omega) (by omega) hy, h⟩
  have hz := hF.zr v hl
  refine ⟨E (.dat (.int (i : Int))) (.dat (lV v)), Fg.cons (Fg.cons (Fg.cons (Fg.cons (Fg.no (Fg.cons (Fg.cons (Fg.cons (Fg.cons (Fg.cons (Fg.cons (Fg.no Fg.refl))))))))))), ?_⟩
  refine SB.cons (E1 := E (.dat (.int (i : Int))) (.dat (lV v))) (M1 := MS S ++ [none]) (ST.set 11 (EV.ix (EV.nm 10) (EV.nm 4) hix) c_law_small.nd) ?_
  have f1 : Fit 0 (D.bl (zr F v)) := True.intro
  refine SB.cons (E1 := E (.dat (.int (i : Int))) (.dat (lV v))) (M1 := MS S ++ [none]) (ST.no (ET.to (ET.not (ET.val (EV.c2 (ok_law_same W 0) (EV.c2 (ok_is_member W) (EV.nm 8) (EV.tuple (EV.nm 11) rfl W.b.tuple) ⟨many, F, v, hB, hM, hV rfl, R, rfl⟩) (EV.to (EV.c3 (ok_law_fits W) (EV.nm 3) (EV.nm 2) (EV.nm 11) ⟨sums, m, v, rfl, rfl, rfl, hm, hs, by omega, fun c h => ⟨by rw [(hc c h).1, hl], (hc c h).2⟩, rfl⟩) (by rw [← hz])) ⟨rfl, f1, rfl⟩))) rfl) SB.nil) (SB.one ?_)
  exact ST.no (ET.to (EW.et (EW.and (k1 := decide ((i : Int) % 5 = 0)) (k2 := false) (ET.cm (EV.mod (EV.intI (EV.nm 4) W.b.int) EV.int (by decide)) EV.int CS.eqI) (fun _ => EW.and1 (ET.to (ET.not (ET.val (EV.c2 (ok_law_same W 1) (EV.c2 (ok_remainder W) (EV.nm 8) (EV.list (EV.nm 11) rfl W.b.list) ⟨many, F, v, hB, hM, hV rfl, R, rfl⟩) (EV.tuple (EV.ix (d1 := leftR F v) (d := lV (red F v F.length)) (i := 1) (EV.c2 (ok_law_left W) (EV.nm 6) (EV.nm 11) ⟨F, wd many, v, R, sq_l, rfl, rfl⟩) EV.int rfl) rfl W.b.tuple) ⟨rfl, fit_V _ (by rw [red_len hF.hf hl _ (Nat.le_refl _)]; omega), rfl⟩))) rfl)) (fun _ => rfl))) (Bool.and_false _)) SB.nil
end
end
section
section
variable {g : Pg}
theorem fn_small (W : Wd g) : FN g "_law_small" 39 (fun os M o M' => os.length = 1 ∧ Run g n_law_small s_law_small 38 os M o M') := FN.run (ps := ["state"]) W.t_law_small c_law_small (fun _ _ _ _ _ _ us hl => match us, hl with | [_], _ => rfl)
theorem SmF.pv {sums F : List (List Int)} {m : Int} {w : Nat} (h : SmF sums m w F) : F.map (fun q => D.int (headF q : Int)) = (List.range w).map fun (i : Nat) => D.int (i : Int) := by
  refine List.ext_getElem (by rw [List.length_map, List.length_map, List.length_range, h.len]) fun i h1 h2 => ?_
  rw [List.length_map] at h1
  rw [List.getElem_map, List.getElem_map, List.getElem_range]
  have e : F[i] = F.getD i [] := by rw [List.getD_eq_getElem?_getD, List.getElem?_eq_getElem h1]; rfl
  rw [e]
  unfold headF
  rw [h.hf.lead_row h1]
theorem small_A (W : Wd g) {S : SS} (hG : Gd S) : ∃ S', Gd S' ∧ Run g n_law_small s_law_small 38 [.adr 1] (MS S) (.dat (.bl true)) (MS S') := by
  obtain ⟨v1, v2⟩ := drV_in S (m := 2) (by decide)
  have hG1 : Gd (drS S 2) := hG.dr (by decide)
  obtain ⟨u1, u2⟩ := drV_in (drS S 2) (m := 6) (by decide)
  have hG2 : Gd (drS (drS S 2) 6) := hG1.dr (by decide)
  obtain ⟨w, hw⟩ : ∃ w : Nat, (w : Int) = 2 + drV S 2 := ⟨(2 + drV S 2).toNat, by omega⟩
  obtain ⟨mN, hm⟩ : ∃ mN : Nat, (mN : Int) = 2 + drV (drS S 2) 6 := ⟨(2 + drV (drS S 2) 6).toNat, by omega⟩
  have w1 : 2 ≤ w := by omega
  have w2 : w ≤ 3 := by omega
  have m1 : 2 ≤ mN := by omega
  have m2 : mN ≤ 7 := by omega
  obtain ⟨x, x1, x2, x3, x4⟩ := small_sums W (S := drS (drS S 2) 6) (w := w) (m := (mN : Int)) hG2 (by omega) (by omega) (by omega)
  generalize x.l = sums at x2 x3 x4
  generalize x.s = T at x1 x4
  obtain ⟨ok, hF⟩ := small_form (sums := sums) (w := w) (n := mN) (m := (mN : Int)) rfl (by omega) (by omega) (by omega) (fun c hc => (x3 c hc).1)
  have hso : ∀ v ∈ (boxV 0 mN w).filter (fitsB sums (mN : Int)), v.length = w := fun v hv => box_wid w v (List.mem_filter.mp hv).1
  have hbl : ∀ n, n ≤ 7 → (n : Nat) ^ w ≤ 343 := fun n hn => Nat.le_trans (Nat.pow_le_pow_left hn w) (Nat.pow_le_pow_right (n := 7) (by decide) w2)
  have hsl : ((boxV 0 mN w).filter (fitsB sums (mN : Int))).length < 100000 := by
    have h1 := List.length_filter_le (fitsB sums (mN : Int)) (boxV 0 mN w)
    have h2 := hbl mN m2
    rw [box_len] at h1
    omega
  generalize hseen : (boxV 0 mN w).filter (fitsB sums (mN : Int)) = seen at ok hF hso hsl
  generalize hform : tdOut (shpT (mN : Int) w seen) w = F at hF
  have Fw := hF.hf.wid
  have Fl := hF.len
  obtain ⟨y, P, yne, run1⟩ := passed_A W (S := T) (F := F) (w := w) (lim := 1000) (d := lM F) x1 sq_l (by omega) Fw (fun q hq z hz => by have := hF.bd q hq z hz; omega) (by omega) (by omega) (by decide)
  obtain ⟨pgd, pl8, pow, pob, ps1, ps2⟩ := P
  obtain ⟨M1, M2⟩ := mx_of (w := w) yne pl8 pow (by omega) (by omega) (fun q hq z hz => by have := pob q hq z hz; omega)
  obtain ⟨B, e0, hB, he0, hBb⟩ := isC_ex M1
  obtain ⟨pc, fB⟩ := hB.hf
  have eB : B = F := by
    rw [M2] at fB
    exact fB.eq hF.hf (hB.s2.trans ps1) (ps2.trans hB.s1)
  subst eB
  generalize y.o = many at pl8 yne run1 M1 M2 hB
  generalize y.s = T1 at pgd run1
  have hG3 : Gd T1 := pgd
  obtain ⟨e, he, run2⟩ := given_A W (S := T1) (d := lM many) (m := many) hG3 sq_l (by omega)
  have hIM : IsM e many := ⟨M1, he⟩
  have hG4 : Gd (drS T1 3) := hG3.dr (by decide)
  have hG5 : Gd (drS (drS T1 3) 9) := hG4.dr (by decide)
  obtain ⟨a1, a2⟩ := drV_in (drS T1 3) (m := 9) (by decide)
  obtain ⟨at_, hat⟩ : ∃ at_ : Int, at_ = -4 + drV (drS T1 3) 9 := ⟨_, rfl⟩
  have hBne : B ≠ [] := fun z => by rw [z] at Fl; simp at Fl; omega
  have hbas : bas B (wd many) = B := if_neg hBne
  refine ⟨drS (drS T1 3) 9, hG5, Nat.le_refl _, True.intro, lowS (L := []) (Nat.succ_pos 1) LowM.nil, [none], ?_⟩
  let E : O → O → O → O → O → O → List O := fun se fo ma a at_ bx => smE (.dat (.int (w : Int))) (.dat (.int (mN : Int))) (.dat (lM sums)) .no se fo ma a at_ bx .no .no
  let E1 : List O := smE (.dat (.int (w : Int))) .no .no .no .no .no .no .no .no .no .no .no
  let E2 : List O := smE (.dat (.int (w : Int))) (.dat (.int (mN : Int))) .no .no .no .no .no .no .no .no .no .no
  refine SB.cons (E1 := E1) (M1 := MS (drS S 2)) (ST.set 1 (EV.to (EV.add EV.int (EV.draw0 (S := S) (m := 2) W hG (by decide) (by decide) (EV.nm 0) EV.int)) (by rw [hw])) c_law_small.nd) ?_
  refine SB.cons (E1 := E2) (M1 := MS (drS (drS S 2) 6)) (ST.set 2 (EV.to (EV.add EV.int (EV.draw0 (S := drS S 2) (m := 6) W hG1 (by decide) (by decide) (EV.nm 0) EV.int)) (by rw [hm])) c_law_small.nd) (x4 _ ?_)
  refine SB.cons (E1 := E (.dat (lM seen)) .no .no .no .no .no) (M1 := MS T ++ [none]) (ST.to (LC.set 5 (LC.lMF 11 (xs := boxV 0 mN w) (f := lV) (g := lV) (t := fitsB sums (mN : Int)) (own := [("v", 11)]) (by rfl) c_law_small.nd rfl (EV.c3 (ok_law_box W) (EV.nm 1) EV.int (EV.to (EV.sub (EV.nm 2) EV.int) (o' := .dat (.int ((0 : Int) + (mN : Int) - 1))) (by congr 2; omega)) ⟨w, mN, 0, rfl, rfl, rfl, by omega, by omega, by decide, rfl⟩) rfl (Nat.le_refl _) OkM.refl (by rw [box_len]; have := hbl mN m2; omega) (fun v hv M => ET.val (EV.c3 (ok_law_fits W) (EV.nm 3) (EV.nm 2) (EV.nm 11) ⟨sums, (mN : Int), v, rfl, rfl, rfl, by omega, by omega, by rw [box_wid w v hv]; omega, fun c hc => ⟨by rw [(x3 c hc).1, box_wid w v hv], fun z hz => by have := (x3 c hc).2 z hz; omega⟩, rfl⟩)) (fun v hv _ M => EV.nm 11)) rfl rfl (fun env he => sw_true (by rw [he]; rfl) (by rw [he]; rfl) (by rfl) (by rfl))) (by rw [hseen]; rfl)) ?_
  refine SB.cons (E1 := E (.dat (lM seen)) (.dat (lM B)) .no .no .no .no) (M1 := MS T ++ [none]) (ST.set 6 (EV.c3 (ok_law_shape W) (EV.nm 5) (EV.nm 1) (EV.nm 2) ⟨seen, w, (mN : Int), rfl, rfl, rfl, hso, hsl, ok, by omega, by omega, by rw [hform]⟩) c_law_small.nd) ?_
  refine SB.cons (E1 := E (.dat (lM seen)) (.dat (lM B)) (.dat (lM many)) .no .no .no) (M1 := MS T1 ++ [none]) (ST.set 7 (EV.callS (L := [none]) (S := T) (S' := T1) (d := lM many) (ds := [lM B, .int (w : Int), .int 1000]) (fn_passed W) (EA.cons (EV.nm 0) (EA.cons (EV.nm 6) (EA.cons (EV.nm 1) (EA.cons EV.int EA.nil)))) ⟨rfl, run1⟩) c_law_small.nd) ?_
  refine SB.cons (E1 := E (.dat (lM seen)) (.dat (lM B)) (.dat (lM many)) (.dat e) .no .no) (M1 := MS (drS T1 3) ++ [none]) (ST.set 8 (EV.callS (L := [none]) (S := T1) (S' := drS T1 3) (d := e) (ds := [lM many]) (fn_given W) (EA.cons (EV.nm 0) (EA.cons (EV.nm 7) EA.nil)) ⟨rfl, run2⟩) c_law_small.nd) ?_
  refine SB.cons (E1 := E (.dat (lM seen)) (.dat (lM B)) (.dat (lM many)) (.dat e) .no .no) (M1 := MS (drS T1 3) ++ [none]) (ST.no (ET.to (EW.et (EW.or (k1 := false) (k2 := false) (ET.to (ET.not (ET.val (EV.c2 (ok_law_same W 2) (EV.to (EV.c1 (ok_basis3 W) (EV.nm 8) ⟨many, B, hB, hIM, rfl⟩) (by rw [hbas])) (EV.c1 (ok_law_frozen W) (EV.nm 6) ⟨B, sq_l, by omega, rfl⟩) ⟨rfl, fit_M (by omega) (fun q hq => by rw [Fw q hq]; omega), rfl⟩))) rfl) (fun _ => EW.or1 (ET.to (ET.not (ET.val (EV.c2 (ok_law_same W 1) (EV.to (EV.c1 (ok_pivots3 W) (EV.nm 8) ⟨many, B, hB, hIM, rfl⟩) (by rw [hF.pv])) (EV.tupRg (n := w) (EV.nm 1) W.b.range W.b.tuple (by omega)) ⟨rfl, fit_ints (by rw [List.length_map, List.length_range]; omega) (fun x hx => by obtain ⟨i, _, rfl⟩ := List.mem_map.mp hx; exact ⟨_, rfl⟩), rfl⟩))) rfl)) (fun z => nomatch z))) rfl) SB.nil) ?_
  refine SB.cons (E1 := E (.dat (lM seen)) (.dat (lM B)) (.dat (lM many)) (.dat e) (.dat (.int at_)) .no) (M1 := MS (drS (drS T1 3) 9) ++ [none]) (ST.set 9 (EV.to (EV.span (L := [none]) (S := drS T1 3) (l := -4) (h := 4) W hG4 (by decide) (by decide) (EV.nm 0) (EV.neg EV.int) EV.int) (by rw [hat]; rfl)) c_law_small.nd) ?_
  have lows : ∀ (d : Int) (n : Nat), d.natAbs ≤ 3 → n ≤ 7 → ∀ v ∈ boxV (at_ + d) n w, v.length = w ∧ ∀ y ∈ v, (y.natAbs : Int) ≤ 1000000 := fun d n hd hn v hv => ⟨box_wid w v hv, fun y hy => by have := box_rng w v hv y hy; omega⟩
  have tail : ∀ bx : List (List Int), bx.length < 100000 → (∀ v ∈ bx, v.length = w ∧ ∀ y ∈ v, (y.natAbs : Int) ≤ 1000000) → SB (smC g) (smB.drop 12) (E (.dat (lM seen)) (.dat (lM B)) (.dat (lM many)) (.dat e) (.dat (.int at_)) (.dat (lM bx))) (MS (drS (drS T1 3) 9) ++ [none]) (.rt (.dat (.bl true)) (MS (drS (drS T1 3) 9) ++ [none])) := fun bx h1 h2 => by
    refine SB.cons (small_each W hF (by omega) (by omega) (by omega) (by omega) (fun c hc => ⟨(x3 c hc).1, fun z hz => by have := (x3 c hc).2 z hz; omega⟩) hIM M2 hB he0 hBb h1 h2) (SB.one (ST.ret (EV.c2 (ok_law_kept W) (EV.nm 8) (EV.nm 7) ⟨many, he, sq_l, by omega, rfl⟩)))
  refine SB.cons (E1 := E (.dat (lM seen)) (.dat (lM B)) (.dat (lM many)) (.dat e) (.dat (.int at_)) (.dat (lM (boxV (at_ + -3) 7 w)))) (M1 := MS (drS (drS T1 3) 9) ++ [none]) (ST.set 10 (EV.c3 (ok_law_box W) (EV.nm 1) (EV.sub (EV.nm 9) EV.int) (EV.add (EV.nm 9) EV.int) ⟨w, 7, at_ + -3, rfl, by congr 1, by congr 1; omega, by omega, by omega, by omega, rfl⟩) c_law_small.nd) ?_
  by_cases h3 : w = 3
  · refine SB.cons (E1 := E (.dat (lM seen)) (.dat (lM B)) (.dat (lM many)) (.dat e) (.dat (.int at_)) (.dat (lM (boxV (at_ + -1) 3 w)))) (M1 := MS (drS (drS T1 3) 9) ++ [none]) (ST.yes (ET.to (ET.cm (EV.nm 1) EV.int CS.eqI) (decide_eq_true (by omega))) (SB.one (ST.set 10 (EV.c3 (ok_law_box W) (EV.nm 1) (EV.sub (EV.nm 9) EV.int) (EV.add (EV.nm 9) EV.int) ⟨w, 3, at_ + -1, rfl, by congr 1, by congr 1; omega, by omega, by omega, by omega, rfl⟩) c_law_small.nd))) (tail _ (by rw [box_len]; have := hbl 3 (by decide); omega) (lows (-1) 3 (by decide) (by decide)))
  · exact SB.cons (E1 := E (.dat (lM seen)) (.dat (lM B)) (.dat (lM many)) (.dat e) (.dat (.int at_)) (.dat (lM (boxV (at_ + -3) 7 w)))) (M1 := MS (drS (drS T1 3) 9) ++ [none]) (ST.no (ET.to (ET.cm (EV.nm 1) EV.int CS.eqI) (decide_eq_false (by omega))) SB.nil) (tail _ (by rw [box_len]; have := hbl 7 (by decide); omega) (lows (-3) 7 (by decide) (by decide)))
end
end
section
/-! ### a drawn basis -/
section
structure TdB (T : List (List Int)) (w : Nat) (pc : Nat → Nat) : Prop where
  td : Td T w pc
  l8 : T.length ≤ 8
  two : ∀ a b, b ≠ pc a → (gE T a b).natAbs ≤ 2
  top : ∀ a, a < T.length → gE T a (pc a) ≤ 1000000
theorem TdB.bd {T : List (List Int)} {w : Nat} {pc : Nat → Nat} (t : TdB T w pc) : ∀ k, k ≤ T.length → (∀ a b, a < T.length → (gE (tdOut T k) a b).natAbs ≤ 1000000) ∧ ∀ a b, a < k → (∀ i, i < k → pc i < b) → (gE (tdOut T k) a b).natAbs ≤ 2 * 3 ^ k
  | 0, _ => ⟨fun a b ha => by
      show (gE T a b).natAbs ≤ _
      by_cases h : b = pc a
      · have := t.top a ha
        have := t.td.pos a ha
        rw [h]
        omega
      · have := t.two a b h
        omega, fun a b ha => absurd ha (Nat.not_lt_zero a)⟩
  | k + 1, hk => by
    obtain ⟨h1, h2⟩ := t.bd k (by omega)
    have I := t.td.inv k (by omega)
    have st := t.td.step (by omega) I.r
    have p3 : 3 ^ k ≤ 3 ^ 7 := Nat.pow_le_pow_right (by decide) (by have := t.l8; omega)
    have e7 : (3 : Nat) ^ 7 = 2187 := by decide
    have e3 : 3 ^ (k + 1) = 3 * 3 ^ k := by rw [Nat.pow_succ, Nat.mul_comm]
    have big : ∀ a b, a < k → pc k < b → (gE (tdOut T k) a b - (gE (tdOut T k) a (pc k)).fdiv (gE T k (pc k)) * gE T k b).natAbs ≤ 2 * 3 ^ (k + 1) := fun a b ha hb => by
      have lt : ∀ i, i < k → pc i < pc k := fun i hi => t.td.inc i k hi (by omega)
      have a1 := h2 a b ha fun i hi => by have := lt i hi; omega
      have a2 := h2 a (pc k) ha lt
      have a3 := t.two k b (by omega)
      obtain ⟨p, hp⟩ : ∃ p : Nat, (p : Int) = gE T k (pc k) := ⟨(gE T k (pc k)).toNat, by have := t.td.pos k (by omega); omega⟩
      have hp0 : 0 < p := by have := t.td.pos k (by omega); omega
      have a4 : ((gE (tdOut T k) a (pc k)).fdiv (gE T k (pc k))).natAbs ≤ 2 * 3 ^ k := by
        rw [← hp]
        exact Nat.le_trans (fdiv_le hp0) a2
      have a5 : ((gE (tdOut T k) a (pc k)).fdiv (gE T k (pc k)) * gE T k b).natAbs ≤ 2 * 3 ^ k * 2 := by
        rw [Int.natAbs_mul]
        exact Nat.mul_le_mul a4 a3
      omega
    refine ⟨fun a b ha => ?_, fun a b ha hb => ?_⟩
    · rw [st]
      by_cases h : a < k
      · rw [if_pos h]
        rcases Nat.lt_trichotomy b (pc k) with hb | hb | hb
        · rw [t.td.left k (by omega) b hb, Int.mul_zero, Int.sub_zero]
          exact h1 a b ha
        · rw [hb]
          have := fmod_rng (r := gE (tdOut T k) a (pc k)) (t.td.pos k (by omega))
          have := t.top k (by omega)
          omega
        · have := big a b h hb
          omega
      · rw [if_neg h]
        exact h1 a b ha
    · rw [st]
      by_cases h : a < k
      · rw [if_pos h]
        exact big a b h (hb k (by omega))
      · rw [if_neg h]
        have e : a = k := by omega
        subst e
        have : gE (tdOut T a) a b = gE T a b := by
          unfold gE
          rw [I.r a (Nat.le_refl a)]
        rw [this]
        have := t.two a b (by have := hb a (by omega); omega)
        have : 0 < 3 ^ (a + 1) := Nat.pow_pos (by decide)
        omega
end
section
variable {g : Pg}
abbrev baB : List Stmt := defBody s_law_basis
abbrev baC (g : Pg) : Cc := mkC g n_law_basis s_law_basis 33
abbrev baE (w r : Nat) (at_ k top rows row j : O) : List O := [.adr 1, .dat (.int (w : Int)), .dat (.int (r : Int)), at_, k, top, rows, row, j]
abbrev natV (l : List Nat) : List Int := l.map fun (i : Nat) => (i : Int)
structure BaS where
  s : SS
  l : List Nat
structure BaI (w r k : Nat) (x : BaS) : Prop where
  gd : Gd x.s
  le : x.l.length ≤ r
  rest : r - x.l.length ≤ w - k
  lt : ∀ i ∈ x.l, i < k
  inc : ∀ i j, i < j → j < x.l.length → x.l.getD i 0 < x.l.getD j 0
theorem natV_app {l : List Nat} {k : Nat} : rowC (natV (l ++ [k])) = some (((natV l).map D.int).map O.dat ++ [O.dat (.int (k : Int))]) := by
  unfold natV
  show some _ = some _
  rw [List.map_append, List.map_append, List.map_append]
  rfl
theorem basis_at (W : Wd g) {S : SS} {w r : Nat} (hG : Gd S) (hr : r ≤ w) (hw : w < 1000) : ∃ x : BaS, Gd x.s ∧ x.l.length = r ∧ (∀ i ∈ x.l, i < w) ∧ (∀ i j, i < j → j < x.l.length → x.l.getD i 0 < x.l.getD j 0) ∧ ∀ q, SB (baC g) (baB.drop 2) (baE w r (.dat (lV (natV x.l))) .no .no .no .no .no) (MS x.s ++ [none]) q → SB (baC g) baB (pad n_law_basis [.adr 1, .dat (.int (w : Int)), .dat (.int (r : Int))]) (MS S) q := by
  let E0 : List O := baE w r (.adr 2) .no .no .no .no .no
  obtain ⟨f, f0, f1, f2⟩ := chain (S := BaS) (n := w) (I := fun i x => BaI w r i x)
    (P := fun i x x' => SB (baC g) (bodyOf (baB.getD 1 (.Pass ⟨0, 0, 0, 0⟩))) (E0.set 4 (.dat (.int (i : Int)))) (MS x.s ++ [rowC (natV x.l)]) (.nx (E0.set 4 (.dat (.int (i : Int)))) (MS x'.s ++ [rowC (natV x'.l)]))) (fun i hi x I => by
      have hlen : ((natV x.l).map D.int).length = x.l.length := by rw [List.length_map, List.length_map]
      have hlen2 : (((natV x.l).map D.int).map O.dat).length = x.l.length := by rw [List.length_map, hlen]
      by_cases h1 : x.l.length < r
      · have hp : (0 : Int) < (w : Int) - (i : Int) := by omega
        have hd := drV_in x.s hp
        have g1 : Gd (drS x.s ((w : Int) - (i : Int))) := I.gd.dr hp
        by_cases h2 : drV x.s ((w : Int) - (i : Int)) < (r : Int) - (x.l.length : Int)
        · refine ⟨⟨drS x.s ((w : Int) - (i : Int)), x.l ++ [i]⟩, SB.one (ST.yes (ET.to (EW.et (EW.and (k1 := true) (k2 := true) (M1 := MS x.s ++ [rowC (natV x.l)]) (M2 := MS (drS x.s ((w : Int) - (i : Int))) ++ [rowC (natV x.l)]) (ET.to (ET.cm (EV.to (EV.lenC (nn := 2) (ps := ((natV x.l).map D.int).map O.dat) (EV.nm 3) rfl W.b.len) (by rw [hlen2])) (EV.nm 2) CS.ltI) (decide_eq_true (by omega))) (fun _ => EW.and1 (ET.to (ET.cm (EV.draw (L := [rowC (natV x.l)]) (S := x.s) W I.gd hp (by omega) (EV.nm 0) (EV.sub (EV.nm 1) (EV.nm 4))) (EV.sub (EV.nm 2) (EV.to (EV.lenC (nn := 2) (ps := ((natV x.l).map D.int).map O.dat) (EV.nm 3) rfl W.b.len) (by rw [hlen2]))) CS.ltI) (decide_eq_true h2))) (fun z => nomatch z))) rfl) (SB.one (ST.to (ST.exp (EV.append (n := 2) (ps := ((natV x.l).map D.int).map O.dat) (EV.nm 3) (EV.nm 4) rfl rfl (by rw [hlen2]; omega))) ?_))), ?_⟩
          · show Out.nx _ (MS _ ++ [_]) = Out.nx _ (MS _ ++ [_])
            rw [← natV_app]
          · refine ⟨g1, by show (x.l ++ [i]).length ≤ r; rw [List.length_append, List.length_singleton]; omega, by show r - (x.l ++ [i]).length ≤ _; rw [List.length_append, List.length_singleton]; have := I.rest; omega, fun j hj => ?_, fun a b hab hb => ?_⟩
            · rcases List.mem_append.mp hj with hj | hj
              · have := I.lt j hj
                omega
              · rw [List.mem_singleton.mp hj]
                omega
            · have hb' : b < x.l.length + 1 := by
                have := hb
                rw [show (⟨drS x.s ((w : Int) - (i : Int)), x.l ++ [i]⟩ : BaS).l = x.l ++ [i] from rfl, List.length_append, List.length_singleton] at this
                exact this
              show (x.l ++ [i]).getD a 0 < (x.l ++ [i]).getD b 0
              rw [List.getD_eq_getElem?_getD, List.getD_eq_getElem?_getD, List.getElem?_append_left (by omega : a < x.l.length)]
              by_cases hbl : b < x.l.length
              · rw [List.getElem?_append_left hbl]
                have := I.inc a b hab hbl
                rw [List.getD_eq_getElem?_getD, List.getD_eq_getElem?_getD] at this
                exact this
              · have e : b = x.l.length := by omega
                rw [e, List.getElem?_append_right (Nat.le_refl _), Nat.sub_self, List.getElem?_eq_getElem (by omega : a < x.l.length)]
                exact I.lt _ (List.getElem_mem _)
        · refine ⟨⟨drS x.s ((w : Int) - (i : Int)), x.l⟩, SB.one (ST.no (ET.to (EW.et (EW.and (k1 := true) (k2 := false) (M1 := MS x.s ++ [rowC (natV x.l)]) (M2 := MS (drS x.s ((w : Int) - (i : Int))) ++ [rowC (natV x.l)]) (ET.to (ET.cm (EV.to (EV.lenC (nn := 2) (ps := ((natV x.l).map D.int).map O.dat) (EV.nm 3) rfl W.b.len) (by rw [hlen2])) (EV.nm 2) CS.ltI) (decide_eq_true (by omega))) (fun _ => EW.and1 (ET.to (ET.cm (EV.draw (L := [rowC (natV x.l)]) (S := x.s) W I.gd hp (by omega) (EV.nm 0) (EV.sub (EV.nm 1) (EV.nm 4))) (EV.sub (EV.nm 2) (EV.to (EV.lenC (nn := 2) (ps := ((natV x.l).map D.int).map O.dat) (EV.nm 3) rfl W.b.len) (by rw [hlen2]))) CS.ltI) (decide_eq_false h2))) (fun z => nomatch z))) rfl) SB.nil), ⟨g1, I.le, by show r - x.l.length ≤ w - (i + 1); omega, fun j hj => by have := I.lt j hj; omega, I.inc⟩⟩
      · refine ⟨x, SB.one (ST.no (ET.to (EW.et (EW.and (k1 := false) (k2 := false) (M1 := MS x.s ++ [rowC (natV x.l)]) (M2 := MS x.s ++ [rowC (natV x.l)]) (ET.to (ET.cm (EV.to (EV.lenC (nn := 2) (ps := ((natV x.l).map D.int).map O.dat) (EV.nm 3) rfl W.b.len) (by rw [hlen2])) (EV.nm 2) CS.ltI) (decide_eq_false (by omega))) (fun z => nomatch z) (fun _ => rfl))) rfl) SB.nil), ⟨I.gd, I.le, by omega, fun j hj => by have := I.lt j hj; omega, I.inc⟩⟩) ⟨S, []⟩ ⟨hG, Nat.zero_le _, by show r - 0 ≤ w - 0; omega, fun i hi => absurd hi List.not_mem_nil, fun i j _ hj => absurd hj (Nat.not_lt_zero j)⟩
  have I := f1 w (Nat.le_refl w)
  refine ⟨f w, I.gd, by have := I.rest; have := I.le; omega, I.lt, I.inc, fun q h => ?_⟩
  refine SB.cons (E1 := E0) (M1 := MS S ++ [some []]) (ST.set 3 (EV.cel (os := []) EA.nil (by decide)) c_law_basis.nd) ?_
  refine SB.cons (E1 := E0) (M1 := MS (f w).s ++ [rowC (natV (f w).l)]) (ST.forN 4 (n := w) (E_ := fun _ => E0) (M_ := fun k => MS (f k).s ++ [rowC (natV (f k).l)]) (EI.rng1 (j := (w : Int)) (EV.nm 1) W.b.range (by omega)) Fg.refl (by rw [f0]; rfl) (fun _ _ => True.intro) c_law_basis.nd (fun i hi => ?_)) (SB.fz (jj := 3) (nn := 2) (ds := (natV (f w).l).map D.int) rfl rfl h)
  rw [atI0_eq]
  exact ⟨_, Fg.cons (Fg.cons (Fg.cons (Fg.cons (Fg.no Fg.refl)))), f2 i hi⟩
end
end
section
section
variable {g : Pg}
structure RowP (w p : Nat) (r : List Int) : Prop where
  len : r.length = w
  left : ∀ j, j < p → r.getD j 0 = 0
  pos : 0 < r.getD p 0 ∧ r.getD p 0 ≤ 1000000
  two : ∀ j, j ≠ p → (r.getD j 0).natAbs ≤ 2
theorem getD_setI {l : List Int} {j a : Nat} {x : Int} (hj : j < l.length) : (l.set j x).getD a 0 = if a = j then x else l.getD a 0 := getD_set hj
theorem basis_top (W : Wd g) {S : SS} {w r : Nat} {at_ : O} (hG : Gd S) : ∃ (S' : SS) (t : Int), Gd S' ∧ 1 ≤ t ∧ t ≤ 1000000 ∧ ∀ q, SB (baC g) (baB.drop 4) (baE w r at_ .no (.dat (.int t)) .no .no .no) (MS S' ++ [none]) q → SB (baC g) (baB.drop 2) (baE w r at_ .no .no .no .no .no) (MS S ++ [none]) q := by
  have q0 := drV_in S (m := 4) (by decide)
  have g1 : Gd (drS S 4) := hG.dr (by decide)
  have g2 : Gd (drS (drS S 4) 3) := g1.dr (by decide)
  have hL : ([1, 3, 12, 1000] : List Int).length = 4 := rfl
  have hq := pick_mem (L := [1, 3, 12, 1000]) (i := drV S 4) (by rw [hL]; exact q0)
  have hat : ixD (.lst [.int 1, .int 3, .int 12, .int 1000]) (drV S 4) = some (.int (pick [1, 3, 12, 1000] (drV S 4))) := pick_at (L := [1, 3, 12, 1000]) (by rw [hL]; exact q0)
  generalize pick [1, 3, 12, 1000] (drV S 4) = t at hq hat
  have ht : 1 ≤ t ∧ t ≤ 1000000 := by
    simp at hq
    omega
  have first : ∀ q, SB (baC g) (baB.drop 3) (baE w r at_ .no (.dat (.int t)) .no .no .no) (MS (drS S 4) ++ [none]) q → SB (baC g) (baB.drop 2) (baE w r at_ .no .no .no .no .no) (MS S ++ [none]) q := fun q h => SB.cons (E1 := baE w r at_ .no (.dat (.int t)) .no .no .no) (M1 := MS (drS S 4) ++ [none]) (ST.set 5 (EV.ix (EV.lst (ds := [.int 1, .int 3, .int 12, .int 1000]) (EA.cons EV.int (EA.cons EV.int (EA.cons EV.int (EA.cons EV.int EA.nil)))) (by show 4 ≤ 100000; decide)) (EV.draw (L := [none]) (S := S) (m := 4) W hG (by decide) (by decide) (EV.nm 0) EV.int) hat) c_law_basis.nd) h
  by_cases h1 : (r : Int) < 3
  · by_cases h2 : drV (drS S 4) 3 = 0
    · exact ⟨drS (drS S 4) 3, 1000000, g2, by decide, by decide, fun q h => first q (SB.cons (E1 := baE w r at_ .no (.dat (.int 1000000)) .no .no .no) (M1 := MS (drS (drS S 4) 3) ++ [none]) (ST.yes (M1 := MS (drS (drS S 4) 3) ++ [none]) (ET.to (EW.et (EW.and (k1 := true) (k2 := true) (M1 := MS (drS S 4) ++ [none]) (M2 := MS (drS (drS S 4) 3) ++ [none]) (ET.to (ET.cm (EV.nm 2) EV.int CS.ltI) (decide_eq_true h1)) (fun _ => EW.and1 (ET.to (ET.cm (EV.draw (L := [none]) (S := drS S 4) (m := 3) W g1 (by decide) (by decide) (EV.nm 0) EV.int) EV.int CS.eqI) (decide_eq_true h2))) (fun z => nomatch z))) rfl) (SB.one (ST.set 5 EV.int c_law_basis.nd))) h)⟩
    · exact ⟨drS (drS S 4) 3, t, g2, ht.1, ht.2, fun q h => first q (SB.cons (E1 := baE w r at_ .no (.dat (.int t)) .no .no .no) (M1 := MS (drS (drS S 4) 3) ++ [none]) (ST.no (M1 := MS (drS (drS S 4) 3) ++ [none]) (ET.to (EW.et (EW.and (k1 := true) (k2 := false) (M1 := MS (drS S 4) ++ [none]) (M2 := MS (drS (drS S 4) 3) ++ [none]) (ET.to (ET.cm (EV.nm 2) EV.int CS.ltI) (decide_eq_true h1)) (fun _ => EW.and1 (ET.to (ET.cm (EV.draw (L := [none]) (S := drS S 4) (m := 3) W g1 (by decide) (by decide) (EV.nm 0) EV.int) EV.int CS.eqI) (decide_eq_false h2))) (fun z => nomatch z))) rfl) SB.nil) h)⟩
  · exact ⟨drS S 4, t, g1, ht.1, ht.2, fun q h => first q (SB.cons (E1 := baE w r at_ .no (.dat (.int t)) .no .no .no) (M1 := MS (drS S 4) ++ [none]) (ST.no (M1 := MS (drS S 4) ++ [none]) (ET.to (EW.et (EW.and (k1 := false) (k2 := false) (M1 := MS (drS S 4) ++ [none]) (M2 := MS (drS S 4) ++ [none]) (ET.to (ET.cm (EV.nm 2) EV.int CS.ltI) (decide_eq_false h1)) (fun z => nomatch z) (fun _ => rfl))) rfl) SB.nil) h)⟩
def BL (rows : List (List Int)) (k : Nat) : Mem := none :: cel rows :: List.replicate k none
def BM (s : SS) (rows : List (List Int)) (k : Nat) (r : List Int) : Mem := MS s ++ (BL rows k ++ [rowC r])
theorem BL_len {s : SS} {rows : List (List Int)} {k : Nat} : (MS s ++ BL rows k).length = 4 + k := by
  show ((List.replicate k (none : Option (List O))).length + 1 + 1) + 1 + 1 = _
  rw [List.length_replicate]
  omega
theorem BM_get {s : SS} {rows : List (List Int)} {k : Nat} {r : List Int} : (BM s rows k r)[4 + k]? = some (rowC r) := by
  unfold BM
  rw [← List.append_assoc, ← BL_len (s := s) (rows := rows) (k := k)]
  exact end_get
theorem BM_set {s : SS} {rows : List (List Int)} {k : Nat} {r : List Int} {c : Option (List O)} : (BM s rows k r).set (4 + k) c = MS s ++ (BL rows k ++ [c]) := by
  unfold BM
  rw [← List.append_assoc, ← List.append_assoc, ← BL_len (s := s) (rows := rows) (k := k)]
  exact end_set
structure BaR where
  s : SS
  r : List Int
/-- one row -/
theorem basis_row (W : Wd g) {S : SS} {w r k : Nat} {t : Int} {at_ : List Nat} {rows : List (List Int)} (hG : Gd S) (hw : w < 100) (ht : 1 ≤ t) (ht2 : t ≤ 1000000) (hk : k < at_.length) (hp : at_.getD k 0 < w) (hl : rows.length < 1000) :
    ∃ (S' : SS) (q : List Int), Gd S' ∧ RowP w (at_.getD k 0) q ∧ ∃ E2, Fg E2 (baE w r (.dat (lV (natV at_))) .no (.dat (.int t)) (.adr 3) .no .no) ∧ SB (baC g) (bodyOf (baB.getD 5 (.Pass ⟨0, 0, 0, 0⟩))) (baE w r (.dat (lV (natV at_))) (.dat (.int (k : Int))) (.dat (.int t)) (.adr 3) .no .no) (MS S ++ BL rows k) (.nx E2 (MS S' ++ BL (rows ++ [q]) (k + 1))) := by
  let E : O → O → List O := fun row j => baE w r (.dat (lV (natV at_))) (.dat (.int (k : Int))) (.dat (.int t)) (.adr 3) row j
  have hF : ∀ row j, Fg (E row j) (baE w r (.dat (lV (natV at_))) .no (.dat (.int t)) (.adr 3) .no .no) := fun row j => Fg.cons (Fg.cons (Fg.cons (Fg.cons (Fg.no (Fg.cons (Fg.cons (Fg.no (Fg.no Fg.refl))))))))
  generalize hpp : at_.getD k 0 = p at hp
  have hix : ixD (lV (natV at_)) ((k : Nat) : Int) = some (.int (p : Int)) := by
    rw [ix_lV (by unfold natV; rw [List.length_map]; exact hk)]
    unfold natV
    rw [List.getD_eq_getElem?_getD, List.getElem?_map, List.getElem?_eq_getElem hk]
    rw [List.getD_eq_getElem?_getD, List.getElem?_eq_getElem hk] at hpp
    rw [← hpp]
    rfl
  have at1 : ∀ {row j : O} {M : Mem} {p1 p2 p3 : Pos}, EV (baC g) (.Subscript (.Name "at" p1) (.Name "k" p2) p3) (E row j) M (.dat (.int (p : Int))) M := EV.ix (EV.nm 3) (EV.nm 4) hix
  have putM : ∀ {s : SS} {q : List Int} {i : Nat} {x : Int}, (BM s rows k q).set (4 + k) (some (((q.map D.int).map O.dat).set i (.dat (.int x)))) = BM s rows k (q.set i x) := by
    intro s q i x
    rw [BM_set, row_set]
    rfl
  let z : List Int := List.replicate w 0
  have zl : z.length = w := List.length_replicate
  have hd := drV_in S (m := t) (by omega)
  have g1 : Gd (drS S t) := hG.dr (by omega)
  let q1 : List Int := z.set p (1 + drV S t)
  have q1l : q1.length = w := by show (List.set _ _ _).length = w; rw [List.length_set, zl]
  have zz : ∀ j, z.getD j 0 = 0 := fun j => rep_zero
  have P1 : ∀ x : Int, 0 < x → x ≤ 1000000 → RowP w p (z.set p x) := fun x h1 h2 => by
    have ge : ∀ j, (z.set p x).getD j 0 = if j = p then x else z.getD j 0 := fun j => getD_setI (by rw [zl]; exact hp)
    refine ⟨by rw [List.length_set, zl], fun j hj => ?_, ?_, fun j hj => ?_⟩
    · rw [ge, if_neg (by omega), zz]
    · rw [ge, if_pos rfl]
      exact ⟨h1, h2⟩
    · rw [ge, if_neg hj, zz]
      decide
  -- the number at the place
  obtain ⟨s2, q2, g2, P2, c2⟩ : ∃ (s2 : SS) (q2 : List Int), Gd s2 ∧ RowP w p q2 ∧ ∀ {o : Out}, SB (baC g) ((bodyOf (baB.getD 5 (.Pass ⟨0, 0, 0, 0⟩))).drop 3) (E (.adr (4 + k)) .no) (BM s2 rows k q2) o → SB (baC g) ((bodyOf (baB.getD 5 (.Pass ⟨0, 0, 0, 0⟩))).drop 2) (E (.adr (4 + k)) .no) (BM (drS S t) rows k q1) o := by
    by_cases h1 : t = 1000000
    · have g2 : Gd (drS (drS S t) 2) := g1.dr (by decide)
      by_cases h2 : drV (drS S t) 2 = 0
      · refine ⟨drS (drS S t) 2, q1.set p t, g2, ?_, fun {o} h => SB.cons (E1 := E (.adr (4 + k)) .no) (M1 := BM (drS (drS S t) 2) rows k (q1.set p t)) (ST.yes (M1 := BM (drS (drS S t) 2) rows k q1) (ET.to (EW.et (EW.and (k1 := true) (k2 := true) (M1 := BM (drS S t) rows k q1) (M2 := BM (drS (drS S t) 2) rows k q1) (ET.to (ET.cm (EV.nm 5) EV.int CS.eqI) (decide_eq_true h1)) (fun _ => EW.and1 (ET.to (ET.cm (EV.draw (L := BL rows k ++ [rowC q1]) (S := drS S t) (m := 2) W g1 (by decide) (by decide) (EV.nm 0) EV.int) EV.int CS.eqI) (decide_eq_true h2))) (fun z => nomatch z))) rfl) (SB.one (ST.to (ST.asg (EV.nm 5) (EG.sub (n := 4 + k) (jj := p) (ps := (q1.map D.int).map O.dat) (EV.nm 7) at1 BM_get (by rw [row_len]; exact ixN_of (by omega)))) (congrArg (Out.nx _) putM)))) h⟩
        show RowP w p ((z.set p _).set p t)
        rw [List.set_set]
        exact P1 t (by omega) ht2
      · exact ⟨drS (drS S t) 2, q1, g2, P1 _ (by omega) (by omega), fun {o} h => SB.cons (E1 := E (.adr (4 + k)) .no) (M1 := BM (drS (drS S t) 2) rows k q1) (ST.no (M1 := BM (drS (drS S t) 2) rows k q1) (ET.to (EW.et (EW.and (k1 := true) (k2 := false) (M1 := BM (drS S t) rows k q1) (M2 := BM (drS (drS S t) 2) rows k q1) (ET.to (ET.cm (EV.nm 5) EV.int CS.eqI) (decide_eq_true h1)) (fun _ => EW.and1 (ET.to (ET.cm (EV.draw (L := BL rows k ++ [rowC q1]) (S := drS S t) (m := 2) W g1 (by decide) (by decide) (EV.nm 0) EV.int) EV.int CS.eqI) (decide_eq_false h2))) (fun z => nomatch z))) rfl) SB.nil) h⟩
    · exact ⟨drS S t, q1, g1, P1 _ (by omega) (by omega), fun {o} h => SB.cons (E1 := E (.adr (4 + k)) .no) (M1 := BM (drS S t) rows k q1) (ST.no (M1 := BM (drS S t) rows k q1) (ET.to (EW.et (EW.and (k1 := false) (k2 := false) (M1 := BM (drS S t) rows k q1) (M2 := BM (drS S t) rows k q1) (ET.to (ET.cm (EV.nm 5) EV.int CS.eqI) (decide_eq_false h1)) (fun z => nomatch z) (fun _ => rfl))) rfl) SB.nil) h⟩
  -- the numbers behind it
  obtain ⟨n, hn⟩ : ∃ n : Nat, n = w - (p + 1) := ⟨_, rfl⟩
  obtain ⟨f, f0, f1, f2⟩ := chain (S := BaR) (n := n) (I := fun i x => Gd x.s ∧ RowP w p x.r)
    (P := fun i x x' => SB (baC g) (bodyOf ((bodyOf (baB.getD 5 (.Pass ⟨0, 0, 0, 0⟩))).getD 3 (.Pass ⟨0, 0, 0, 0⟩))) (E (.adr (4 + k)) (.dat (.int ((p + 1 + i : Nat) : Int)))) (BM x.s rows k x.r) (.nx (E (.adr (4 + k)) (.dat (.int ((p + 1 + i : Nat) : Int)))) (BM x'.s rows k x'.r))) (fun i hi x I => by
      obtain ⟨i1, i2⟩ := I
      have hv := drV_in x.s (m := 2 - -2 + 1) (by decide)
      have hpi : p + 1 + i < x.r.length := by rw [i2.len]; omega
      refine ⟨⟨drS x.s (2 - -2 + 1), x.r.set (p + 1 + i) (-2 + drV x.s (2 - -2 + 1))⟩, SB.one (ST.to (ST.asg (M1 := BM (drS x.s (2 - -2 + 1)) rows k x.r) (EV.span (L := BL rows k ++ [rowC x.r]) (S := x.s) (l := -2) (h := 2) W i1 (by decide) (by decide) (EV.nm 0) (EV.neg EV.int) EV.int) (EG.sub (n := 4 + k) (jj := p + 1 + i) (ps := (x.r.map D.int).map O.dat) (EV.nm 7) (EV.nm 8) BM_get (by rw [row_len]; exact ixN_of hpi))) (congrArg (Out.nx _) putM)), i1.dr (by decide), ?_⟩
      have ge : ∀ j, (x.r.set (p + 1 + i) (-2 + drV x.s (2 - -2 + 1))).getD j 0 = if j = p + 1 + i then -2 + drV x.s (2 - -2 + 1) else x.r.getD j 0 := fun j => getD_setI hpi
      refine ⟨by rw [List.length_set, i2.len], fun j hj => ?_, ?_, fun j hj => ?_⟩
      · rw [ge, if_neg (by omega)]
        exact i2.left j hj
      · rw [ge, if_neg (by omega)]
        exact i2.pos
      · rw [ge]
        by_cases h : j = p + 1 + i
        · rw [if_pos h]
          omega
        · rw [if_neg h]
          exact i2.two j hj) ⟨s2, q2⟩ ⟨g2, P2⟩
  obtain ⟨g3, P3⟩ := f1 n (Nat.le_refl n)
  refine ⟨(f n).s, (f n).r, g3, P3, E (.dat (lV (f n).r)) .no, hF _ _, ?_⟩
  have ez : MS S ++ BL rows k ++ [some ((List.replicate ((w : Int)).toNat [D.int 0]).flatten.map O.dat)] = BM S rows k z := by
    unfold BM
    rw [Int.toNat_natCast, flat_rep, List.append_assoc]
    show _ = MS S ++ (BL rows k ++ [some (((List.replicate w (0 : Int)).map D.int).map O.dat)])
    rw [List.map_replicate, List.map_replicate, List.map_replicate]
  refine SB.cons (E1 := E (.adr (4 + k)) .no) (M1 := BM S rows k z) (ST.to (ST.set 7 (EV.bin (EV.lst (ds := [.int 0]) (EA.cons EV.int EA.nil) (by decide)) (EV.nm 1) (BS.mulLN (M := MS S ++ BL rows k) (ds := [.int 0]) (i := (w : Int)) (by omega) (by omega) (by decide))) c_law_basis.nd) (by rw [ez, BL_len]; rfl)) ?_
  refine SB.cons (E1 := E (.adr (4 + k)) .no) (M1 := BM (drS S t) rows k q1) (ST.to (ST.asg (M1 := BM (drS S t) rows k z) (EV.add EV.int (EV.draw (L := BL rows k ++ [rowC z]) (S := S) (m := t) W hG (by omega) (by omega) (EV.nm 0) (EV.nm 5))) (EG.sub (n := 4 + k) (jj := p) (ps := (z.map D.int).map O.dat) (EV.nm 7) at1 BM_get (by rw [row_len]; exact ixN_of (by omega)))) (congrArg (Out.nx _) putM)) (c2 ?_)
  refine SB.cons (E1 := E (.adr (4 + k)) .no) (M1 := BM (f n).s rows k (f n).r) (ST.forN 8 (n := n) (E_ := fun _ => E (.adr (4 + k)) .no) (M_ := fun i => BM (f i).s rows k (f i).r) (it := atI0 ((p : Int) + 1)) (by
    have e : n = ((w : Int) - ((p : Int) + 1)).toNat := by omega
    rw [e]
    exact EI.rng2 (i := (p : Int) + 1) (j := (w : Int)) (EV.add at1 EV.int) (EV.nm 1) W.b.range (by omega) (by omega)) Fg.refl (by rw [f0]) (fun _ _ => True.intro) c_law_basis.nd (fun i hi => ?_)) ?_
  · have e : atI0 ((p : Int) + 1) i = .dat (.int ((p + 1 + i : Nat) : Int)) := by
      show O.dat (.int ((p : Int) + 1 + i)) = _
      rfl
    rw [e]
    exact ⟨_, Fg.cons (Fg.cons (Fg.cons (Fg.cons (Fg.cons (Fg.cons (Fg.cons (Fg.cons (Fg.no Fg.refl)))))))), f2 i hi⟩
  · refine SB.fz (jj := 7) (nn := 4 + k) (ds := (f n).r.map D.int) rfl BM_get ?_
    rw [BM_set]
    refine SB.one (ST.to (ST.exp (EV.append (n := 3) (ps := (rows.map lV).map O.dat) (M2 := MS (f n).s ++ (BL rows k ++ [none])) (EV.nm 6) (EV.nm 7) rfl rfl (by rw [cel_len]; omega))) ?_)
    have e1 : (BL rows k ++ [none] : Mem) = none :: cel rows :: List.replicate (k + 1) none := by
      show none :: cel rows :: (List.replicate k none ++ [none]) = _
      rw [List.replicate_succ']
    rw [e1]
    show Out.nx _ (MS (f n).s ++ (none :: some _ :: List.replicate (k + 1) none)) = Out.nx _ (MS (f n).s ++ (none :: cel (rows ++ [(f n).r]) :: List.replicate (k + 1) none))
    rw [← cel_app]
    rfl
end
end
section
section
variable {g : Pg}
theorem getD_app1 {α : Type} {l : List α} {q d : α} {j : Nat} (h : j < l.length) : (l ++ [q]).getD j d = l.getD j d := by
  rw [List.getD_eq_getElem?_getD, List.getD_eq_getElem?_getD, List.getElem?_append_left h]
theorem getD_app2 {α : Type} {l : List α} {q d : α} : (l ++ [q]).getD l.length d = q := by
  rw [List.getD_eq_getElem?_getD, List.getElem?_append_right (Nat.le_refl _), Nat.sub_self]
  rfl
theorem fn_basis (W : Wd g) : FN g "_law_basis" 34 (fun os M o M' => os.length = 3 ∧ Run g n_law_basis s_law_basis 33 os M o M') := FN.run (ps := ["state", "wide", "rank"]) W.t_law_basis c_law_basis (fun _ _ _ _ _ _ us hl => match us, hl with | [_, _, _], _ => rfl)
theorem row_ent {m : List (List Int)} {B : Nat} (h : ∀ a b, a < m.length → (gE m a b).natAbs ≤ B) : ∀ q ∈ m, ∀ y ∈ q, (y.natAbs : Int) ≤ B := fun q hq y hy => by
  obtain ⟨a, ha, rfl⟩ := List.getElem_of_mem hq
  obtain ⟨b, hb, rfl⟩ := List.getElem_of_mem hy
  have e : m[a][b] = gE m a b := by
    unfold gE
    rw [List.getD_eq_getElem?_getD (l := m), List.getElem?_eq_getElem ha, Option.getD_some, List.getD_eq_getElem?_getD, List.getElem?_eq_getElem hb]
    rfl
  rw [e]
  have := h a b ha
  omega
theorem basis_A (W : Wd g) {S : SS} {w r : Nat} (hG : Gd S) (hr : r ≤ w) (hw0 : 0 < w) (hw : w ≤ 8) : ∃ (S' : SS) (F : List (List Int)) (pc : Nat → Nat), Gd S' ∧ F.length = r ∧ HF F w F.length pc ∧ (∀ q ∈ F, ∀ y ∈ q, (y.natAbs : Int) ≤ 1000000) ∧ Run g n_law_basis s_law_basis 33 [.adr 1, .dat (.int (w : Int)), .dat (.int (r : Int))] (MS S) (.dat (lM F)) (MS S') := by
  obtain ⟨x, x1, x2, x3, x4, x5⟩ := basis_at W (S := S) (w := w) (r := r) hG hr (by omega)
  generalize x.l = at_ at x2 x3 x4 x5
  generalize x.s = S1 at x1 x5
  obtain ⟨S2, t, t1, t2, t3, t4⟩ := basis_top W (S := S1) (w := w) (r := r) (at_ := .dat (lV (natV at_))) x1
  have hlt : ∀ k, k < r → at_.getD k 0 < w := fun k hk => x3 _ (mem_getD (by omega))
  obtain ⟨f, f0, f1, f2⟩ := chain (S := SmS) (n := r) (I := fun i x => Gd x.s ∧ x.l.length = i ∧ ∀ j, j < i → RowP w (at_.getD j 0) (x.l.getD j []))
    (P := fun i x x' => ∃ E2, Fg E2 (baE w r (.dat (lV (natV at_))) .no (.dat (.int t)) (.adr 3) .no .no) ∧ SB (baC g) (bodyOf (baB.getD 5 (.Pass ⟨0, 0, 0, 0⟩))) (baE w r (.dat (lV (natV at_))) (.dat (.int (i : Int))) (.dat (.int t)) (.adr 3) .no .no) (MS x.s ++ BL x.l i) (.nx E2 (MS x'.s ++ BL x'.l (i + 1)))) (fun i hi x I => by
      obtain ⟨i1, i2, i3⟩ := I
      obtain ⟨s', q, q1, q2, q3⟩ := basis_row W (S := x.s) (w := w) (r := r) (k := i) (t := t) (at_ := at_) (rows := x.l) i1 (by omega) t2 t3 (by omega) (hlt i hi) (by omega)
      refine ⟨⟨s', x.l ++ [q]⟩, q3, q1, by show (x.l ++ [q]).length = _; rw [List.length_append, List.length_singleton, i2], fun j hj => ?_⟩
      show RowP w _ ((x.l ++ [q]).getD j [])
      by_cases h : j < i
      · rw [getD_app1 (by omega)]
        exact i3 j h
      · have e : j = x.l.length := by omega
        rw [e, getD_app2, i2]
        exact q2) ⟨S2, []⟩ ⟨t1, rfl, fun j hj => absurd hj (Nat.not_lt_zero j)⟩
  obtain ⟨g1, g2, g3⟩ := f1 r (Nat.le_refl r)
  have mk := fun q h => x5 q (t4 q (SB.cons (E1 := baE w r (.dat (lV (natV at_))) .no (.dat (.int t)) (.adr 3) .no .no) (M1 := MS S2 ++ BL [] 0) (ST.set 6 (EV.cel (os := []) EA.nil (by decide)) c_law_basis.nd) (SB.cons (E1 := baE w r (.dat (lV (natV at_))) .no (.dat (.int t)) (.adr 3) .no .no) (M1 := MS (f r).s ++ BL (f r).l r) (ST.forN 4 (n := r) (E_ := fun _ => baE w r (.dat (lV (natV at_))) .no (.dat (.int t)) (.adr 3) .no .no) (M_ := fun k => MS (f k).s ++ BL (f k).l k) (EI.rng1 (j := (r : Int)) (EV.nm 2) W.b.range (by omega)) Fg.refl (by rw [f0]) (fun _ _ => True.intro) c_law_basis.nd (fun i hi => by
    rw [atI0_eq]
    exact f2 i hi)) h)))
  generalize (f r).s = S3 at g1 mk
  generalize (f r).l = T at g2 g3 mk
  have ent : ∀ a b, a < r → gE T a b = (T.getD a []).getD b 0 := fun a b _ => rfl
  have sm : ∀ a b, a < T.length → (gE T a b).natAbs ≤ 1000000 := fun a b ha => by
    have R := g3 a (by omega)
    by_cases h : b = at_.getD a 0
    · have := R.pos
      unfold gE
      rw [h]
      omega
    · have := R.two b h
      unfold gE
      omega
  have td : Td T w fun k => at_.getD k 0 := ⟨fun q hq => by
      obtain ⟨a, ha, rfl⟩ := List.getElem_of_mem hq
      have := (g3 a (by omega)).len
      rw [List.getD_eq_getElem?_getD, List.getElem?_eq_getElem ha] at this
      exact this, ⟨by omega, by omega⟩, fun i hi => hlt i (by omega), fun i j h1 h2 => x4 i j h1 (by omega), fun i hi j hj => (g3 i (by omega)).left j hj, fun i hi => (g3 i (by omega)).pos.1, fun q hq y hy => by
      have := row_ent sm q hq y hy
      omega⟩
  have tb : TdB T w fun k => at_.getD k 0 := ⟨td, by omega, fun a b hb => by
      by_cases ha : a < r
      · exact (g3 a ha).two b hb
      · have e : T.getD a [] = [] := by rw [List.getD_eq_getElem?_getD, List.getElem?_eq_none (by omega)]; rfl
        unfold gE
        rw [e]
        exact Nat.zero_le _, fun a ha => (g3 a (by omega)).pos.2⟩
  obtain ⟨fm, s1, s2⟩ := td.form
  have bd := (tb.bd T.length (Nat.le_refl _)).1
  refine ⟨S3, tdOut T T.length, fun k => at_.getD k 0, g1, by rw [tdOut_len, g2], fm, row_ent (fun a b ha => bd a b (by rw [tdOut_len] at ha; exact ha)), Nat.le_refl _, True.intro, lowS (L := []) (Nat.succ_pos 1) LowM.nil, none :: none :: List.replicate r none, mk _ ?_⟩
  exact SB.fz (jj := 6) (nn := 3) (ds := T.map lV) rfl rfl (SB.one (ST.ret (EV.c1 (ok_law_tidied W) (EV.nm 6) ⟨T, w, sq_l, td.ok, rfl⟩)))
end
end
section
/-! ### a drawn vector -/
section
theorem abs_evC {C : Cc} {E : List O} {M : Mem} {v : List Int} {n : Nat} {iter : Expr} {jx : Nat} {own : List (Str × Nat)} {sc : Scope} {x : Str} {p p1 p2 p3 pos : Pos} (W : Wd C.g) (hz : v.length < 100000) (ok : blkC C.N C.sc sc own = true) (nd : C.N.Nodup) (ho : own.map (·.2) = [jx]) (hi : EV C iter E M (.adr n) M) (hm : M[n]? = some (rowC v))
    (hN : C.N[jx]? = some x := by rfl) (hx : Loc (C.blk sc).sc x := by first | exact Or.inl rfl | exact Or.inr rfl) (hf' : (C.blk sc).fn x = true ∨ (C.blk sc).sc.names.lookup x = some .local := by first | exact .inl rfl | exact .inr rfl)
    (hf : ∀ env x, foldedSetIterable iter env x = pure x := by intro _ _; rfl) (hgl : (C.blk sc).sc.names.lookup ("abs" : Str) = some .globalImplicit := by rfl) (hE : ∀ y, ((wipeE E [jx]).set jx (.dat y))[jx]? = some (.dat y) := by intro _; rfl)
    (hd : (x == ("__debug__" : Str)) = false := by decide) (hcd : (x == ("__classdict__" : Str)) = false := by decide) (hv : Vis (C.blk sc).sc x := by first | exact Or.inl rfl | exact Or.inr (Or.inl rfl) | exact Or.inr (Or.inr rfl)) : EV C (.ListComp (.Call (.Name "abs" p1) [.Name x p2] [] p3) [⟨.Name x p, iter, [], 0⟩] sc pos) E M (.dat (.lst ((v.map fun y => (y.natAbs : Int)).map D.int))) M := by
  have hl : (((v.map D.int).map O.dat)).length = v.length := row_len
  have key := LC.ev (pos := pos) (LC.lPF (C := C) (E := E) (M := M) (M1 := M) (tg := .Name x p) (elt := .Call (.Name "abs" p1) [.Name x p2] [] p3) (iter := iter) (ifs := []) (scope := sc) (own := own) (n := v.length) (v := fun i => .int ((v.getD i 0).natAbs : Int)) (f := fun _ => true) ok nd (hl ▸ EI.cell hi hm) (fun c => by
    show (M ++ [c])[n]? = _
    rw [List.getElem?_append_left (List.getElem?_eq_some_iff.mp hm).1]
    exact hm) hz (Nat.le_refl _) OkM.refl (fun i hi' => by
    refine ⟨_, fun M => EGv.nm jx nd (by rw [ho]; simp) hN hx hf', fun M => EP.nil, fun _ M => ?_⟩
    have e : ((v.map D.int).map O.dat).getD i .no = .dat (.int (v.getD i 0)) := by
      rw [List.getD_eq_getElem?_getD, List.getElem?_map, List.getElem?_map, List.getElem?_eq_getElem hi', List.getD_eq_getElem?_getD, List.getElem?_eq_getElem hi']
      rfl
    rw [ho, e]
    exact EV.abs (EV.nm jx hN (hE _) (by intro z; cases z) hv hd hcd) W.b.abs rfl hgl) hf)
  refine EV.to key ?_
  rw [List.filter_eq_self.mpr (fun _ _ => rfl), List.map_map]
  refine congrArg (fun z => O.dat (D.lst z)) (List.ext_getElem (by simp) fun i h1 h2 => ?_)
  rw [List.length_map, List.length_range] at h1
  simp [h1]
variable {g : Pg}
theorem ok_law_ledC (W : Wd g) : FN g "_law_led" 1 (fun os M o M' => ∃ (d e : D) (x : List Int) (m : List (List Int)) (w : Nat), os = [.dat d, .dat e, .dat (.int (w : Int))] ∧ seqD d = some (x.map D.int) ∧ Sq e m ∧ x.length = m.length ∧ m.length < 1000 ∧ w < 1000 ∧ (∀ q ∈ m, q.length = w) ∧ (∀ y ∈ x, y.natAbs < 2 ^ 60) ∧ M = [] ∧ o = .adr 0 ∧ M' = [rowC (ledV x m w)]) := by
  refine FN.mk W.t_law_led c_law_led (fun _ _ _ _ _ _ us hl => match us, hl with | [_, _, _], _ => rfl) (fun os M o M' h => by obtain ⟨d, e, x, m, w, rfl, _⟩ := h; rfl) (fun os M o M' h => ?_)
  obtain ⟨d, e, x, m, w, rfl, hx, hm, hl, l1, l2, hw, hb, rfl, rfl, rfl⟩ := h
  refine SB_ret_to (SB.one (ST.ret (LC.ev (LC.lRSC 3 (j := ((w : Nat) : Int)) (v := fun i => .int ((List.range m.length).map fun k => x.getD k 0 * gE m k i).sum) (M_ := fun _ => []) (own := [("i", 3)]) (by rfl) c_law_led.nd rfl (EV.nm 2) W.b.range rfl (fun _ _ => rfl) (by omega) (fun i hi c => ?_))))) rfl ?_
  · have hi' : i < w := by omega
    refine EV.sum (ns := (List.range m.length).map fun k => x.getD k 0 * gE m k i) ?_ W.b.sum
    rw [List.map_map]
    refine EV.to (LC.ev (LC.lR 4 (j := ((m.length : Nat) : Int)) (g := fun k => .int (x.getD k 0 * gE m k i)) (own := [("k", 4)]) (by rfl) c_law_led.nd rfl (EV.len (EV.nm 1) hm.len W.b.len) W.b.range (Nat.le_refl _) OkM.refl (by omega) (fun k hk M => ?_))) (by rw [Int.toNat_natCast]; rfl)
    have hk' : k < m.length := by omega
    have hxb := hb _ (mem_getD (a0 := (0 : Int)) (by omega : k < x.length))
    exact EV.mulL (EV.ix (EV.nm 0) (EV.nm 4) (sqV_at hx (by omega))) (ev_at hm (EV.nm 1) (EV.nm 4) (EV.nm 3) hk' (by rw [hw _ (mem_getD hk')]; exact hi')) (by omega)
  · show [some (((List.range ((w : Int)).toNat).map _).map O.dat)] = [some (((ledV x m w).map D.int).map O.dat)]
    rw [Int.toNat_natCast]
    unfold ledV
    rw [List.map_map, List.map_map, List.map_map]
    rfl
abbrev veB : List Stmt := defBody s_law_vector
abbrev veC (g : Pg) : Cc := mkC g n_law_vector s_law_vector 2
abbrev veE (F many : List (List Int)) (w : Nat) (way v at_ : O) : List O := [.adr 1, .dat (lM F), .dat (lM many), .dat (.int (w : Int)), way, v, at_, .no, .no, .no]
def VM (s : SS) (J : Mem) (v : List Int) : Mem := MS s ++ (J ++ [rowC v])
theorem VJ_len {s : SS} {J : Mem} : (MS s ++ J).length = 2 + J.length := by
  show J.length + 1 + 1 = _
  omega
theorem VM_get {s : SS} {J : Mem} {v : List Int} : (VM s J v)[2 + J.length]? = some (rowC v) := by
  unfold VM
  rw [← List.append_assoc, ← VJ_len (s := s)]
  exact end_get
theorem VM_set {s : SS} {J : Mem} {v : List Int} {c : Option (List O)} : (VM s J v).set (2 + J.length) c = MS s ++ (J ++ [c]) := by
  unfold VM
  rw [← List.append_assoc, ← List.append_assoc, ← VJ_len (s := s)]
  exact end_set
def VecOk (w : Nat) (v : List Int) : Prop := v.length = w ∧ ∀ y ∈ v, (y.natAbs : Int) ≤ 1000000
theorem vec_tail (W : Wd g) {S : SS} {w : Nat} {F many : List (List Int)} {J : Mem} {v : List Int} {way : Int} (hG : Gd S) (hw0 : 0 < w) (hw : w ≤ 8) (hv : VecOk w v) : ∃ (S' : SS) (q : List Int) (J' : Mem), Gd S' ∧ VecOk w q ∧ SB (veC g) (veB.drop 5) (veE F many w (.dat (.int way)) (.adr (2 + J.length)) .no) (VM S J v) (.rt (.dat (lV q)) (MS S' ++ J')) := by
  have hp : (0 : Int) < (w : Int) := by omega
  have hd := drV_in S hp
  obtain ⟨at_, hat⟩ : ∃ at_ : Nat, (at_ : Int) = drV S (w : Int) := ⟨(drV S (w : Int)).toNat, by omega⟩
  have g1 : Gd (drS S (w : Int)) := hG.dr hp
  have g2 : Gd (drS (drS S (w : Int)) 2) := g1.dr (by decide)
  have hd2 := drV_in (drS S (w : Int)) (m := 2) (by decide)
  have halt : at_ < v.length := by rw [hv.1]; omega
  let E : List O := veE F many w (.dat (.int way)) (.adr (2 + J.length)) (.dat (.int (at_ : Int)))
  have first : ∀ {r : Out}, SB (veC g) (veB.drop 6) E (VM (drS S (w : Int)) J v) r → SB (veC g) (veB.drop 5) (veE F many w (.dat (.int way)) (.adr (2 + J.length)) .no) (VM S J v) r := fun {r} h => SB.cons (E1 := E) (M1 := VM (drS S (w : Int)) J v) (ST.to (ST.set 6 (EV.draw (L := J ++ [rowC v]) (S := S) (m := (w : Int)) W hG hp (by omega) (EV.nm 0) (EV.nm 3)) c_law_vector.nd) (by rw [← hat]; rfl)) h
  have fin : ∀ {s : SS} {q : List Int}, SB (veC g) (veB.drop 7) E (VM s J q) (.rt (.dat (lV q)) (MS s ++ (J ++ [none]))) := fun {s q} => by
    refine SB.fz (jj := 5) (nn := 2 + J.length) (ds := q.map D.int) rfl VM_get ?_
    rw [VM_set]
    exact SB.one (ST.ret (EV.nm 5))
  have look : ∀ {s : SS} {p1 p2 p3 : Pos}, EV (veC g) (.Subscript (.Name "v" p1) (.Name "at" p2) p3) E (VM s J v) (.dat (.int (v.getD at_ 0))) (VM s J v) := EV.ixC (n := 2 + J.length) (EV.nm 5) (EV.nm 6) VM_get (row_at halt)
  by_cases h1 : way = 3
  · by_cases h2 : ((v.getD at_ 0).natAbs : Int) < 1000000
    · let y : Int := v.getD at_ 0 + 1 - 2 * drV (drS S (w : Int)) 2
      refine ⟨drS (drS S (w : Int)) 2, v.set at_ y, J ++ [none], g2, ⟨by rw [List.length_set, hv.1], fun z hz => ?_⟩, first (SB.cons (E1 := E) (M1 := VM (drS (drS S (w : Int)) 2) J (v.set at_ y)) (ST.yes (ET.to (EW.et (EW.and (k1 := true) (k2 := true) (M1 := VM (drS S (w : Int)) J v) (M2 := VM (drS S (w : Int)) J v) (ET.to (ET.cm (EV.nm 4) EV.int CS.eqI) (decide_eq_true h1)) (fun _ => EW.and1 (ET.to (ET.cm (EV.abs look W.b.abs) EV.int CS.ltI) (decide_eq_true h2))) (fun z => nomatch z))) rfl) (SB.one (ST.to (ST.asg (M1 := VM (drS (drS S (w : Int)) 2) J v) (EV.sub (EV.add look EV.int) (EV.mulL EV.int (EV.draw (L := J ++ [rowC v]) (S := drS S (w : Int)) (m := 2) W g1 (by decide) (by decide) (EV.nm 0) EV.int) (by decide))) (EG.sub (n := 2 + J.length) (jj := at_) (ps := (v.map D.int).map O.dat) (EV.nm 5) (EV.nm 6) VM_get (by rw [row_len]; exact ixN_of halt))) ?_))) fin)⟩
      · rcases List.mem_or_eq_of_mem_set hz with hz | rfl
        · exact hv.2 z hz
        · show ((v.getD at_ 0 + 1 - 2 * drV (drS S (w : Int)) 2).natAbs : Int) ≤ _
          omega
      · rw [VM_set, row_set]
        rfl
    · exact ⟨drS S (w : Int), v, J ++ [none], g1, hv, first (SB.cons (E1 := E) (M1 := VM (drS S (w : Int)) J v) (ST.no (ET.to (EW.et (EW.and (k1 := true) (k2 := false) (M1 := VM (drS S (w : Int)) J v) (M2 := VM (drS S (w : Int)) J v) (ET.to (ET.cm (EV.nm 4) EV.int CS.eqI) (decide_eq_true h1)) (fun _ => EW.and1 (ET.to (ET.cm (EV.abs look W.b.abs) EV.int CS.ltI) (decide_eq_false h2))) (fun z => nomatch z))) rfl) SB.nil) fin)⟩
  · exact ⟨drS S (w : Int), v, J ++ [none], g1, hv, first (SB.cons (E1 := E) (M1 := VM (drS S (w : Int)) J v) (ST.no (ET.to (EW.et (EW.and (k1 := false) (k2 := false) (M1 := VM (drS S (w : Int)) J v) (M2 := VM (drS S (w : Int)) J v) (ET.to (ET.cm (EV.nm 4) EV.int CS.eqI) (decide_eq_false h1)) (fun z => nomatch z) (fun _ => rfl))) rfl) SB.nil) fin)⟩
end
end
section
section
variable {g : Pg}
theorem fn_vector (W : Wd g) : FN g "_law_vector" 3 (fun os M o M' => os.length = 4 ∧ Run g n_law_vector s_law_vector 2 os M o M') := FN.run (ps := ["state", "rows", "many", "wide"]) W.t_law_vector c_law_vector (fun _ _ _ _ _ _ us hl => match us, hl with | [_, _, _, _], _ => rfl)
theorem vector_A (W : Wd g) {S : SS} {w : Nat} {F many : List (List Int)} (hG : Gd S) (hF : F.length ≤ 8) (hFw : ∀ q ∈ F, q.length = w) (hm0 : many ≠ []) (hm8 : many.length ≤ 8) (hm : ∀ q ∈ many, VecOk w q) (hw0 : 0 < w) (hw : w ≤ 8) : ∃ (S' : SS) (q : List Int), Gd S' ∧ VecOk w q ∧ Run g n_law_vector s_law_vector 2 [.adr 1, .dat (lM F), .dat (lM many), .dat (.int (w : Int))] (MS S) (.dat (lV q)) (MS S') := by
  have hd := drV_in S (m := 4) (by decide)
  have g1 : Gd (drS S 4) := hG.dr (by decide)
  have hml : 0 < many.length := List.length_pos_iff.mpr hm0
  have mk : ∀ {S' : SS} {q : List Int} {J : Mem}, SB (veC g) (veB.drop 1) (veE F many w (.dat (.int (drV S 4))) .no .no) (MS (drS S 4)) (.rt (.dat (lV q)) (MS S' ++ J)) → Run g n_law_vector s_law_vector 2 [.adr 1, .dat (lM F), .dat (lM many), .dat (.int (w : Int))] (MS S) (.dat (lV q)) (MS S') := fun {S' q J} h => ⟨Nat.le_refl _, True.intro, lowS (L := []) (Nat.succ_pos 1) LowM.nil, J, SB.cons (E1 := veE F many w (.dat (.int (drV S 4))) .no .no) (M1 := MS (drS S 4)) (ST.set 4 (EV.draw0 W hG (by decide) (by decide) (EV.nm 0) EV.int) c_law_vector.nd) h⟩
  generalize drV S 4 = way at hd mk
  generalize drS S 4 = S1 at g1 mk
  by_cases h0 : way = 0
  · refine ⟨spS S1 2000001 w, spL S1 (-1000000) 2000001 w, spS_gd g1 (by decide) _, ⟨spL_len, fun y hy => by have := spL_in (S := S1) (l := -1000000) (m := 2000001) (n := w) (by decide) y hy; omega⟩, mk (J := []) (SB.guard (k := true) (ET.to (ET.cm (EV.nm 4) EV.int CS.eqI) (decide_eq_true h0)) (fun _ => SB.one (ST.ret (LC.ev (LC.spans (L := []) (S := S1) (l := -1000000) (m := 2000001) (own := [("k", 7)]) (n := w) g1 (by decide) (by rfl) c_law_vector.nd (EI.rng1 (j := (w : Int)) (EV.nm 3) W.b.range (by omega)) (fun _ => True.intro) (by omega) LowM.nil (fun i hi => ⟨_, fun M => EGv.nm 7 c_law_vector.nd (by simp), fun S' c hS => EV.span (L := [] ++ [c]) (S := S') (l := -1000000) (h := 1000000) W hS (by decide) (by decide) (EV.nm 0) (EV.neg EV.int) EV.int⟩))))) (fun z => nomatch z))⟩
  by_cases h1 : way = 1
  · refine ⟨spS S1 7 w, spL S1 (-3) 7 w, spS_gd g1 (by decide) _, ⟨spL_len, fun y hy => by have := spL_in (S := S1) (l := -3) (m := 7) (n := w) (by decide) y hy; omega⟩, mk (J := []) (SB.guard (k := false) (ET.to (ET.cm (EV.nm 4) EV.int CS.eqI) (decide_eq_false h0)) (fun z => nomatch z) (fun _ => SB.guard (k := true) (ET.to (ET.cm (EV.nm 4) EV.int CS.eqI) (decide_eq_true h1)) (fun _ => SB.one (ST.ret (LC.ev (LC.spans (L := []) (S := S1) (l := -3) (m := 7) (own := [("k", 7)]) (n := w) g1 (by decide) (by rfl) c_law_vector.nd (EI.rng1 (j := (w : Int)) (EV.nm 3) W.b.range (by omega)) (fun _ => True.intro) (by omega) LowM.nil (fun i hi => ⟨_, fun M => EGv.nm 7 c_law_vector.nd (by simp), fun S' c hS => EV.span (L := [] ++ [c]) (S := S') (l := -3) (h := 3) W hS (by decide) (by decide) (EV.nm 0) (EV.neg EV.int) EV.int⟩))))) (fun z => nomatch z)))⟩
  let xs := spL S1 (-9) 19 F.length
  let S2 := spS S1 19 F.length
  have g2 : Gd S2 := spS_gd g1 (by decide) _
  let v := ledV xs F w
  have vl : v.length = w := led_len
  obtain ⟨m, m1, m2⟩ := max_ex (ns := v.map fun y => (y.natAbs : Int)) (fun z => by have := congrArg List.length z; rw [List.length_map, vl] at this; simp at this; omega)
  have hFl : (F.map lV).length = F.length := List.length_map _
  have pre : ∀ {r : Out}, SB (veC g) (veB.drop 4) (veE F many w (.dat (.int way)) (.adr 2) .no) (VM S2 [] v) r → SB (veC g) (veB.drop 1) (veE F many w (.dat (.int way)) .no .no) (MS S1) r := fun {r} h => by
    refine SB.cons (E1 := veE F many w (.dat (.int way)) .no .no) (M1 := MS S1) (ST.no (ET.to (ET.cm (EV.nm 4) EV.int CS.eqI) (decide_eq_false h0)) SB.nil) (SB.cons (E1 := veE F many w (.dat (.int way)) .no .no) (M1 := MS S1) (ST.no (ET.to (ET.cm (EV.nm 4) EV.int CS.eqI) (decide_eq_false h1)) SB.nil) ?_)
    refine SB.cons (E1 := veE F many w (.dat (.int way)) (.adr 2) .no) (M1 := VM S2 [] v) (ST.set 5 (EV.callM (ds := [lV xs, lM F, .int (w : Int)]) (M1 := MS S2 ++ []) (ok_law_ledC W) (EA.cons (LC.ev (LC.spans (L := []) (S := S1) (l := -9) (m := 19) (own := [("row", 8)]) (n := F.length) g1 (by decide) (by rfl) c_law_vector.nd (hFl ▸ EI.seq (ds := F.map lV) (EV.nm 1) rfl) (fun _ => True.intro) (by omega) LowM.nil (fun i hi => ⟨_, fun M => EGv.nm 8 c_law_vector.nd (by simp), fun S' c hS => EV.span (L := [] ++ [c]) (S := S') (l := -9) (h := 9) W hS (by decide) (by decide) (EV.nm 0) (EV.neg EV.int) EV.int⟩))) (EA.cons (EV.nm 1) (EA.cons (EV.nm 3) EA.nil))) ⟨lV xs, lM F, xs, F, w, rfl, rfl, sq_l, spL_len, by omega, by omega, hFw, fun y hy => by have := spL_in (S := S1) (l := -9) (m := 19) (n := F.length) (by decide) y hy; omega, rfl, rfl, rfl⟩ rfl (by
      show MS S2 ++ ([] ++ [rowC v]) = MS S2 ++ [] ++ [some (((v.map D.int).map O.dat).map _)]
      rw [ren_dat]
      rfl)) c_law_vector.nd) h
  have test : ∀ {y : Bool}, decide (1000000 < m) = y → ET (veC g) (ifOf (veB.getD 4 (.Pass ⟨0, 0, 0, 0⟩))) (veE F many w (.dat (.int way)) (.adr 2) .no) (VM S2 [] v) y (VM S2 [] v) := fun {y} hy => ET.to (ET.cm (EV.maxL (ns := v.map fun y => (y.natAbs : Int)) (abs_evC (n := 2) (v := v) (jx := 9) (own := [("x", 9)]) W (by omega) (by rfl) c_law_vector.nd rfl (EV.nm 5) rfl) m1 m2 W.b.max) EV.int CS.gtI) hy
  by_cases hmm : 1000000 < m
  · have hp : (0 : Int) < (many.length : Int) := by omega
    have hq := drV_in S2 hp
    obtain ⟨i, hi⟩ : ∃ i : Nat, (i : Int) = drV S2 (many.length : Int) := ⟨(drV S2 (many.length : Int)).toNat, by omega⟩
    have hil : i < many.length := by omega
    have hu := hm _ (mem_getD hil : many.getD i [] ∈ many)
    have hix : ixD (lM many) ((i : Nat) : Int) = some (lV (many.getD i [])) := by
      refine atI_nat ?_
      rw [List.getElem?_map, List.getElem?_eq_getElem hil, List.getD_eq_getElem?_getD, List.getElem?_eq_getElem hil]
      rfl
    generalize many.getD i [] = u at hu hix
    obtain ⟨S', q, J', a1, a2, a3⟩ := vec_tail W (S := drS S2 (many.length : Int)) (w := w) (F := F) (many := many) (J := [rowC v]) (v := u) (way := way) (g2.dr hp) hw0 hw hu
    refine ⟨S', q, a1, a2, mk (pre (SB.cons (E1 := veE F many w (.dat (.int way)) (.adr 3) .no) (M1 := VM (drS S2 (many.length : Int)) [rowC v] u) (ST.yes (test (decide_eq_true hmm)) (SB.one (ST.set 5 (EV.listN (ds := u.map D.int) (M' := MS (drS S2 (many.length : Int)) ++ [rowC v]) (EV.ix (EV.nm 2) (EV.to (EV.draw (L := [rowC v]) (S := S2) (m := (many.length : Int)) W g2 hp (by omega) (EV.nm 0) (EV.len (EV.nm 2) (show lenD (lM many) = some many.length from sq_l.len) W.b.len)) (by rw [← hi])) hix) rfl W.b.list) c_law_vector.nd))) a3))⟩
  · obtain ⟨S', q, J', a1, a2, a3⟩ := vec_tail W (S := S2) (w := w) (F := F) (many := many) (J := []) (v := v) (way := way) g2 hw0 hw ⟨vl, fun y hy => by have := m2 _ (List.mem_map_of_mem hy); omega⟩
    exact ⟨S', q, a1, a2, mk (pre (SB.cons (E1 := veE F many w (.dat (.int way)) (.adr 2) .no) (M1 := VM S2 [] v) (ST.no (test (decide_eq_false hmm)) SB.nil) a3))⟩
end
end
section
/-! ### what is asked of a vector -/
section
variable {g : Pg}
structure AsOk (F many : List (List Int)) (e : D) (v : List Int) (w : Nat) : Prop where
  hb : IsB many F
  hm : IsM e many
  wd : wd many = w
  w0 : 0 < w
  w8 : w ≤ 8
  red : ∀ v, VecOk w v → RedOk F w v
  v : VecOk w v
theorem AsOk.len {F many : List (List Int)} {e : D} {v : List Int} {w : Nat} (A : AsOk F many e v w) : F.length ≤ 8 := by
  obtain ⟨pc, f⟩ := A.hb.hf
  have := f.lenle
  have := A.wd
  have := A.w8
  omega
def asR : Rel := fun os M o M' => ∃ F many e v w, AsOk F many e v w ∧ os = [.dat (lM F), .dat (lM many), .dat e, .dat (lV v)] ∧ M = [] ∧ o = .dat (.bl true) ∧ M' = []
theorem ok_law_asked (W : Wd g) : FN g "_law_asked" 41 asR := by
  refine FN.mk W.t_law_asked c_law_asked (fun _ _ _ _ _ _ us hl => match us, hl with | [_, _, _, _], _ => rfl) (fun os M o M' h => by obtain ⟨F, many, e, v, w, _, rfl, _⟩ := h; rfl) (fun os M o M' h => ?_)
  obtain ⟨F, many, e, v, w, A, rfl, rfl, rfl, rfl⟩ := h
  have R := A.red v A.v
  obtain ⟨pc, f⟩ := R.hf
  have hvl := A.v.1
  have rl := red_len f hvl _ (Nat.le_refl _)
  have hz := zr_eq f hvl
  have hV : IsV (lV v) v := ⟨vx_of (by rw [hvl]; exact A.w0) (by rw [hvl]; exact A.w8) A.v.2, rfl⟩
  have R' : RedOk F (Ab.wd many) v := by rw [A.wd]; exact R
  have w0 := A.w0
  have w8 := A.w8
  have Fl := A.len
  let E : O → O → O → O → O → List O := fun wi re du pl ro => [.dat (lM F), .dat (lM many), .dat e, .dat (lV v), wi, re, du, pl, ro]
  let wi : O := .dat (.int (w : Int))
  let re : O := .dat (leftR F v)
  let du : O := .dat (.bl (zr F v))
  let pl : D := if zr F v = true then tV (co F v) else .tup [.str "refused", .str "Undefined 'member'"]
  refine SB.cons (E1 := E wi .no .no .no .no) (M1 := []) (ST.set 4 (EV.to (EV.len (EV.nm 3) len_lV W.b.len) (by rw [hvl])) c_law_asked.nd) ?_
  refine SB.cons (E1 := E wi re .no .no .no) (M1 := []) (ST.set 5 (EV.c2 (ok_law_left W) (EV.nm 0) (EV.nm 3) ⟨F, w, v, R, sq_l, rfl, rfl⟩) c_law_asked.nd) ?_
  refine SB.cons (E1 := E wi re du .no .no) (M1 := []) (ST.set 6 (EV.to (EV.cm (EV.ix (d1 := leftR F v) (d := lV (red F v F.length)) (i := 1) (EV.nm 5) EV.int rfl) (EV.zeros (EV.nm 4) (EV.lst (ds := [.int 0]) (EA.cons EV.int EA.nil) (by decide)) (by omega)) CS.eqL) (by show _ = O.dat (.bl (zr F v)); rw [hz])) c_law_asked.nd) ?_
  refine SB.cons (E1 := E wi re du (.dat (.tup [.str "refused", .str "Undefined 'member'"])) .no) (M1 := []) (ST.set 7 (EV.tup (ds := [.str "refused", .str "Undefined 'member'"]) (EA.cons EV.str (EA.cons EV.str EA.nil)) (by decide)) c_law_asked.nd) ?_
  refine SB.cons (E1 := E wi re du (.dat pl) .no) (M1 := []) ?_ ?_
  · by_cases h1 : zr F v = true
    · have hpl : pl = tV (co F v) := if_pos h1
      rw [hpl]
      by_cases h2 : F = []
      · have hco : co F v = [0] := if_pos h2
        rw [hco]
        exact ST.yes (ET.to (EW.et (EW.and (k1 := true) (k2 := true) (ET.to (ET.val (EV.nm 6)) h1) (fun _ => EW.and1 (ET.to (ET.cm (EV.nm 0) (EV.lst (ds := []) EA.nil (by decide)) (CS.eqN (m := F) (m' := []))) (decide_eq_true h2))) (fun z => nomatch z))) rfl) (SB.one (ST.set 7 (EV.tup (ds := [.int 0]) (EA.cons EV.int EA.nil) (by decide)) c_law_asked.nd))
      · have hco : co F v = (List.range F.length).map (quo F v) := if_neg h2
        rw [hco]
        exact ST.no (ET.to (EW.et (EW.and (k1 := true) (k2 := false) (ET.to (ET.val (EV.nm 6)) h1) (fun _ => EW.and1 (ET.to (ET.cm (EV.nm 0) (EV.lst (ds := []) EA.nil (by decide)) (CS.eqN (m := F) (m' := []))) (decide_eq_false h2))) (fun z => nomatch z))) rfl) (SB.one (ST.yes (ET.to (ET.val (EV.nm 6)) h1) (SB.one (ST.set 7 (EV.tuple (ds := ((List.range F.length).map (quo F v)).map D.int) (EV.ix (d1 := leftR F v) (d := lV ((List.range F.length).map (quo F v))) (i := 0) (EV.nm 5) EV.int rfl) rfl W.b.tuple) c_law_asked.nd))))
    · have hpl : pl = .tup [.str "refused", .str "Undefined 'member'"] := if_neg h1
      have h1' : zr F v = false := by
        cases hq : zr F v with
        | true => exact absurd hq h1
        | false => rfl
      rw [hpl]
      exact ST.no (ET.to (EW.et (EW.and (k1 := false) (k2 := false) (ET.to (ET.val (EV.nm 6)) h1') (fun z => nomatch z) (fun _ => rfl))) rfl) (SB.one (ST.no (ET.to (ET.val (EV.nm 6)) h1') SB.nil))
  refine SB.cons (E1 := E wi re du (.dat pl) (.dat (lV v))) (M1 := []) (ST.set 8 (EV.list (EV.nm 3) rfl W.b.list) c_law_asked.nd) ?_
  have same : ∀ {p1 p2 p3 : Pos}, ET (mkC g n_law_asked s_law_asked 40) (.Compare (.Name "row" p1) [.NotEq] [.Name "v" p2] p3) (E wi re du (.dat pl) (.dat (lV v))) [] false [] := ET.to (ET.cm (EV.nm 8) (EV.nm 3) CS.neL) (by rw [decide_eq_true rfl]; rfl)
  have fit2 : Fit 1 pl := by
    show Fit 1 (if zr F v = true then tV (co F v) else .tup [.str "refused", .str "Undefined 'member'"])
    split
    · refine fit_V _ ?_
      unfold co
      split
      · decide
      · rw [List.length_map, List.length_range]
        omega
    · refine ⟨by decide, fun x hx => ?_⟩
      rcases List.mem_cons.mp hx with rfl | hx
      · exact True.intro
      · rw [List.mem_singleton.mp hx]
        exact True.intro
  refine SB.cons (E1 := E wi re du (.dat pl) (.dat (lV v))) (M1 := []) (ST.no (ET.to (EW.et (EW.or (k1 := false) (k2 := false) (ET.to (ET.not (ET.val (EV.c2 (ok_law_same W 0) (EV.c2 (ok_is_member W) (EV.nm 2) (EV.nm 8) ⟨many, F, v, A.hb, A.hm, hV, R', rfl⟩) (EV.nm 6) ⟨rfl, True.intro, rfl⟩))) rfl) (fun _ => EW.or1 same) (fun z => nomatch z))) rfl) SB.nil) ?_
  refine SB.cons (E1 := E wi re du (.dat pl) (.dat (lV v))) (M1 := []) (ST.no (ET.to (EW.et (EW.or (k1 := false) (k2 := false) (ET.to (ET.not (ET.val (EV.c2 (ok_law_same W 1) (EV.c2 (ok_remainder W) (EV.nm 2) (EV.nm 8) ⟨many, F, v, A.hb, A.hm, hV, R', rfl⟩) (EV.tuple (EV.ix (d1 := leftR F v) (d := lV (red F v F.length)) (i := 1) (EV.nm 5) EV.int rfl) rfl W.b.tuple) ⟨rfl, fit_V _ (by omega), rfl⟩))) rfl) (fun _ => EW.or1 same) (fun z => nomatch z))) rfl) SB.nil) ?_
  refine SB.cons (E1 := E wi re du (.dat pl) (.dat (lV v))) (M1 := []) (ST.no (ET.to (EW.et (EW.or (k1 := false) (k2 := false) (ET.to (ET.not (ET.val (EV.c2 (ok_law_same W 1) (EV.c2 (ok_told_coordinates W) (EV.nm 2) (EV.nm 8) ⟨many, F, v, A.hb, A.hm, hV, R', rfl⟩) (EV.nm 7) ⟨rfl, fit2, rfl⟩))) rfl) (fun _ => EW.or1 same) (fun z => nomatch z))) rfl) SB.nil) ?_
  exact SB.one (ST.ret (EV.c2 (ok_law_kept W) (EV.nm 2) (EV.nm 1) ⟨many, A.hm.2, sq_l, by have := A.hm.1.l8; omega, rfl⟩))
end
end
section
/-! ### the large law -/
section
theorem EV.isListV {C : Cc} {E : List O} {M M' : Mem} {a : Expr} {o : O} {d : D} {p pt pos : Pos} (ha : EV C a E M o M') (hv : View M' o d) (hm : Bt C.g "isinstance") (hmT : Bt C.g "list") (hg : C.sc.names.lookup ("isinstance" : Str) = some .globalImplicit := by rfl) (hgT : C.sc.names.lookup ("list" : Str) = some .globalImplicit := by rfl)
    (hs : ∀ env, starEach [a, .Name "list" pt] env = (false, eval a env) :: starEach [.Name "list" pt] env := by intro _; rfl) (hpl : ∀ env, (backTo pos (starEach [.Name "list" pt] env)).any (·.1) = false := by intro _; rfl) : EV C (.Call (.Name "isinstance" p) [a, .Name "list" pt] [] pos) E M (.dat (.bl d.isLst)) M' := by
  refine EV.mk (t := tCB (rIsi C.g.K) (tCons (UE C a) (tCons (tC (.ty "list")) tNil))) (fun X hX => ?_) fun I H adr σ Q s q => ?_
  · have h1 := call_isi (X := X)
    rw [hX.K] at h1
    refine pe_callB h1 (by show X.env.scope.names.lookup _ = _; rw [hX.sc]; exact hg) (by rw [hX.mg]; exact hm) (by decide +kernel) (pa_cons (ue hX a) (pa_cons (pe_bltn (v := .ty "list") (by show X.env.scope.names.lookup _ = _; rw [hX.sc]; exact hgT) (by rw [hX.mg]; exact hmT) bv_list rfl (by decide) (by decide)) pa_nil) (hs X.env)) (by decide) (by decide) (hs X.env) (hpl X.env)
  · refine ha I H adr σ _ s fun v I1 H1 adr1 s1 g1 v1 => ?_
    exact ⟨v, .ty "list", _, _, d.isLst, rfl, .ty "list", ty_of (Ex.refl H1) (view_rep s1.sto s1.ex (fun _ _ _ _ _ => rfl) hv v1), kit_ty kit_list, q _ I1 H1 adr1 s1 g1 (.bl _)⟩
variable {g : Pg}
def rnN (l : Nat) (N : Mem) : Mem := N.map fun c => c.map fun ps => ps.map (·.ren (rho [0, 1] (2 + l)))
theorem rho2 {l i : Nat} (h : 2 ≤ i) : rho [0, 1] (2 + l) i = l + i := by
  unfold rho
  have : ([0, 1] : List Nat)[i]? = none := by
    rw [List.getElem?_eq_none]
    exact h
  rw [this]
  show 2 + l + (i - 2) = l + i
  omega
theorem mixN2 {S S' : SS} {L N : Mem} : Mix [0, 1] (MS S ++ L) (MS S) (MS S' ++ N) (MS S' ++ (L ++ rnN L.length N)) := by
  have hl : (MS S ++ L).length = 2 + L.length := VJ_len
  refine ⟨rfl, by decide, ?_, fun i k h => ?_, fun k os h => ?_⟩
  · rw [hl, VJ_len, VJ_len, List.length_append]
    unfold rnN
    rw [List.length_map]
    show 2 + (L.length + N.length) = 2 + L.length + (2 + N.length - 2)
    omega
  · match i, h with
    | 0, h => cases h; exact congrArg (fun q => some (some q)) (ren_dat _).symm
    | 1, h => cases h; rfl
    | n + 2, h => simp at h
  · match k, h with
    | 0, h => cases h; exact .inr ⟨0, _, rfl, .inl (by decide), rfl, (ren_dat _).symm⟩
    | 1, h => cases h; exact .inr ⟨1, _, rfl, .inl (by decide), rfl, rfl⟩
    | n + 2, h =>
      have h2 : (L ++ rnN L.length N)[n]? = some (some os) := h
      by_cases hn : n < L.length
      · rw [List.getElem?_append_left hn] at h2
        exact .inl ⟨by simp, h2⟩
      · rw [List.getElem?_append_right (by omega)] at h2
        unfold rnN at h2
        rw [List.getElem?_map] at h2
        cases hc : N[n - L.length]? with
        | none => rw [hc] at h2; cases h2
        | some c =>
          rw [hc] at h2
          cases c with
          | none => cases h2
          | some ps =>
            refine .inr ⟨2 + (n - L.length), ps, ?_, .inr (by show 2 ≤ _; omega), ?_, ?_⟩
            · rw [hl, rho2 (by omega)]
              omega
            · have : (MS S' ++ N)[2 + (n - L.length)]? = N[n - L.length]? := by
                rw [show 2 + (n - L.length) = (n - L.length) + 2 by omega]
                rfl
              rw [this, hc]
            · rw [hl]
              exact (Option.some.inj (Option.some.inj h2)).symm
/-- a call with the state first, cells out -/
theorem EV.callSN {C : Cc} {E : List O} {M L N : Mem} {S S' : SS} {e : Expr} {es : List Expr} {p pos : Pos} {x : Str} {o : O} {R : Rel} {kf : Nat} {ds : List D} (F : FN C.g x kf R) (ha : EA C (e :: es) E M (.adr 1 :: ds.map .dat) (MS S ++ L)) (hR : R (.adr 1 :: ds.map .dat) (MS S) o (MS S' ++ N)) (hk : Nat.ble kf C.k = true := by rfl)
    (hg : C.sc.names.lookup x = some .globalImplicit := by rfl) (hdb : (x == ("__debug__" : Str)) = false := by decide) (he : ∀ env, starEach (e :: es) env = (false, eval e env) :: starEach es env := by intro _; rfl) (hpl : ∀ env, (backTo pos (starEach es env)).any (·.1) = false := by intro _; rfl) :
    EV C (.Call (.Name x p) (e :: es) [] pos) E M (o.ren (rho [0, 1] (2 + L.length))) (MS S' ++ (L ++ rnN L.length N)) := by
  have := EV.callG (ι := [0, 1]) (p := p) (pos := pos) F ha hR (ren_args ds) mixN2 hk hg hdb he hpl
  rw [VJ_len] at this
  exact this
theorem rnN_data {l : Nat} {ds : List D} {N : Mem} : rnN l (some (ds.map .dat) :: N) = some (ds.map .dat) :: rnN l N := by
  show (some ((ds.map O.dat).map _) : Option (List O)) :: _ = _
  rw [ren_dat]
  rfl
/-- what is handed, seen as data -/
theorem GivB.view {m : List (List Int)} {o : O} {N : Mem} (h : GivB m o N) : ∃ e : D, Sq e m ∧ rnN 0 N = N ∧ (∀ S J, View (MS S ++ (N ++ J)) o e) ∧ o.ren (rho [0, 1] (2 + 0)) = o ∧ o ≠ .no := by
  cases h with
  | l => exact ⟨lM m, sq_l, rnN_data, fun S J => .cel rfl (Views.ints _), rfl, by intro z; cases z⟩
  | t => exact ⟨.lst (m.map tV), sq_tl, rnN_data, fun S J => .cel rfl (Views.ints _), rfl, by intro z; cases z⟩
  | d => exact ⟨tM m, sq_t, rfl, fun S J => .dat _, rfl, by intro z; cases z⟩
def SM (s : SS) (L : Mem) (m : List (List Int)) (J : Mem) : Mem := MS s ++ (L ++ (cel m :: J))
theorem mid_get {s : SS} {L J : Mem} {c : Option (List O)} : (MS s ++ (L ++ (c :: J)))[2 + L.length]? = some c := by
  rw [← List.append_assoc, ← VJ_len (s := s), List.getElem?_append_right (Nat.le_refl _), Nat.sub_self]
  rfl
theorem mid_set {s : SS} {L J : Mem} {c c' : Option (List O)} : (MS s ++ (L ++ (c :: J))).set (2 + L.length) c' = MS s ++ (L ++ (c' :: J)) := by
  rw [← List.append_assoc, ← List.append_assoc, ← VJ_len (s := s), List.set_append_right _ _ (Nat.le_refl _), Nat.sub_self]
  rfl
end
end
section
/-! ### what the large law compares -/
section
theorem bas_sub {B : List (List Int)} {w : Nat} : Sub B (bas B w) ∧ Sub (bas B w) B := by
  unfold bas
  by_cases h : B = []
  · rw [if_pos h, h]
    refine ⟨fun q hq => absurd hq List.not_mem_nil, fun q hq => ?_⟩
    rw [List.mem_singleton.mp hq]
    exact InS.zero.congr fun j => rep_zero.symm
  · rw [if_neg h]
    exact ⟨Sub.refl, Sub.refl⟩
theorem bas_eq_sub {B B2 : List (List Int)} {w : Nat} (h : bas B2 w = bas B w) : Sub B2 B := by
  have h1 := (bas_sub (B := B2) (w := w)).1
  rw [h] at h1
  exact h1.trans bas_sub.2
theorem all_zr {B m : List (List Int)} {w : Nat} {pc : Nat → Nat} (f : HF B w B.length pc) (hw : ∀ q ∈ m, q.length = w) : m.all (zr B) = true ↔ Sub m B := by
  rw [List.all_eq_true]
  exact ⟨fun h q hq => (zr_iff f (hw q hq)).mp (h q hq), fun h q hq => (zr_iff f (hw q hq)).mpr (h q hq)⟩
theorem within_eq {B m : List (List Int)} {w : Nat} {pc : Nat → Nat} (f : HF B w B.length pc) (hw : ∀ q ∈ m, q.length = w) : decide (m.filter (fun q => !decide (red B q B.length = List.replicate w 0)) = []) = m.all (zr B) := by
  rw [Bool.eq_iff_iff, decide_eq_true_iff, List.filter_eq_nil_iff, List.all_eq_true]
  refine ⟨fun h q hq => ?_, fun h q hq => ?_⟩
  · have := h q hq
    rw [zr_eq f (hw q hq)]
    cases hd : decide (red B q B.length = List.replicate w 0) with
    | true => rfl
    | false => rw [hd] at this; exact absurd rfl this
  · have := h q hq
    rw [zr_eq f (hw q hq)] at this
    rw [this]
    decide
/-- the lattice of rows with one more -/
theorem more_eq {F B many : List (List Int)} {v : List Int} {w : Nat} {pc pc2 : Nat → Nat} (f : HF F w F.length pc) (f2 : HF B w B.length pc2) (s1 : Sub many F) (s2 : Sub F many) (t1 : Sub (many ++ [v]) B) (t2 : Sub B (many ++ [v])) (hv : v.length = w) : zr B v = true ∧ decide (bas B w = bas F w) = zr F v := by
  have inB : InS B fun j => v.getD j 0 := t1 v (List.mem_append_right _ (List.mem_singleton_self v))
  refine ⟨(zr_iff f2 hv).mpr inB, ?_⟩
  rw [Bool.eq_iff_iff, decide_eq_true_iff]
  refine ⟨fun h => (zr_iff f hv).mpr (inB.of (bas_eq_sub h)), fun h => ?_⟩
  have e : B = F := f2.eq f (t2.trans (s1.app ((zr_iff f hv).mp h))) (s2.trans ((Sub.mono fun q hq => List.mem_append_left _ hq).trans t1))
  rw [e]
end
section
variable {g : Pg}
structure LgC (F many : List (List Int)) (w : Nat) (oa : O) (e : D) (N : Mem) : Prop where
  hb : IsB many F
  hm : IsM e many
  wd : wd many = w
  w0 : 0 < w
  w8 : w ≤ 8
  red : ∀ v, VecOk w v → RedOk F w v
  mv : ∀ q ∈ many, VecOk w q
  m0 : many ≠ []
  m8 : many.length ≤ 8
  fw : ∀ q ∈ F, q.length = w
  fl : F.length ≤ 8
  hf : ∃ pc, HF F w F.length pc
  vw : ∀ S J, View (MS S ++ (N ++ J)) oa e
  nn : oa ≠ .no
theorem LgC.as {F many : List (List Int)} {w : Nat} {oa : O} {e : D} {N : Mem} (c : LgC F many w oa e N) {v : List Int} (hv : VecOk w v) : AsOk F many e v w := ⟨c.hb, c.hm, c.wd, c.w0, c.w8, c.red, hv⟩
theorem LgC.isV {F many : List (List Int)} {w : Nat} {oa : O} {e : D} {N : Mem} (c : LgC F many w oa e N) {v : List Int} (hv : VecOk w v) {d : D} (h : seqD d = some (v.map D.int)) : IsV d v := ⟨vx_of (by rw [hv.1]; exact c.w0) (by rw [hv.1]; exact c.w8) hv.2, h⟩
abbrev lgB : List Stmt := defBody s_law_large
abbrev lgCc (g : Pg) : Cc := mkC g n_law_large s_law_large 41
abbrev lgE (w rk : Nat) (F many : List (List Int)) (oa due k se ch wi b v : O) : List O := [.adr 1, .dat (.int (w : Int)), .dat (.int (rk : Int)), .dat (lM F), .dat (lM many), oa, due, k, se, ch, wi, b, v, .no]
section
variable {F many : List (List Int)} {w rk : Nat} {oa : O} {e : D} {N J : Mem}
/-- due, basis, pivots -/
theorem large_first (W : Wd g) (c : LgC F many w oa e N) {S : SS} {r : Out} (h : SB (lgCc g) (lgB.drop 9) (lgE w rk F many oa (.dat (lM (bas F w))) .no .no .no .no .no .no) (MS S ++ (N ++ J)) r) : SB (lgCc g) (lgB.drop 5) (lgE w rk F many oa .no .no .no .no .no .no .no) (MS S ++ (N ++ J)) r := by
  obtain ⟨pc, f⟩ := c.hf
  have w8 := c.w8
  have fl := c.fl
  let E : O → List O := fun du => lgE w rk F many oa du .no .no .no .no .no .no
  have hbl : (bas F w).length < 100000 := by
    unfold bas
    split
    · show 1 < 100000
      decide
    · omega
  have hbw : ∀ q ∈ bas F w, q.length < 100000 := fun q hq => by
    unfold bas at hq
    split at hq
    · rw [List.mem_singleton.mp hq, List.length_replicate]
      omega
    · rw [c.fw q hq]
      omega
  refine SB.cons (E1 := E (.dat (lM F))) (M1 := MS S ++ (N ++ J)) (ST.set 6 (EV.nm 3) c_law_large.nd) ?_
  refine SB.cons (E1 := E (.dat (lM (bas F w)))) (M1 := MS S ++ (N ++ J)) ?_ ?_
  · by_cases h0 : F = []
    · have eb : bas F w = [List.replicate w 0] := if_pos h0
      rw [eb]
      exact ST.yes (ET.to (ET.cm (EV.nm 6) (EV.lst (ds := []) EA.nil (by decide)) (CS.eqN (m := F) (m' := []))) (decide_eq_true h0)) (SB.one (ST.set 6 (EV.lst (ds := [lV (List.replicate w 0)]) (EA.cons (EV.zeros (EV.nm 1) (EV.lst (ds := [.int 0]) (EA.cons EV.int EA.nil) (by decide)) (by omega)) EA.nil) (by show 1 ≤ 100000; decide)) c_law_large.nd))
    · have eb : bas F w = F := if_neg h0
      rw [eb]
      exact ST.no (ET.to (ET.cm (EV.nm 6) (EV.lst (ds := []) EA.nil (by decide)) (CS.eqN (m := F) (m' := []))) (decide_eq_false h0)) SB.nil
  refine SB.cons (E1 := E (.dat (lM (bas F w)))) (M1 := MS S ++ (N ++ J)) (ST.no (ET.to (EW.et (EW.or (k1 := false) (k2 := false) (ET.to (ET.not (ET.val (EV.c2 (ok_law_same W 2) (EV.to (EV.lend (ds := [e]) (d := tM (bas F (Ab.wd many))) (ok_basis3 W) (EA.cons (EV.nm 5 (hn := c.nn)) EA.nil) (.cons (c.vw S J) .nil) ⟨e, _, rfl, rfl, rfl, rfl, many, F, c.hb, c.hm, rfl⟩ (NoL.mat _)) (by rw [c.wd])) (EV.c1 (ok_law_frozen W) (EV.nm 6) ⟨bas F w, sq_l, hbl, rfl⟩) ⟨rfl, fit_M hbl hbw, rfl⟩))) rfl) (fun _ => EW.or1 (ET.to (ET.not (ET.val (EV.lend (ds := [e, lM many]) (d := .bl true) (ok_law_kept W) (EA.cons (EV.nm 5 (hn := c.nn)) (EA.cons (EV.nm 4) EA.nil)) (.cons (c.vw S J) (.cons (.dat _) .nil)) ⟨e, lM many, _, rfl, rfl, rfl, rfl, many, c.hm.2, sq_l, by have := c.m8; omega, rfl⟩ (NoL.bl _)))) rfl)) (fun z => nomatch z))) rfl) SB.nil) ?_
  have hpv : D.tup (F.map fun q => D.int (headF q : Int)) = tV (F.map fun q => (headF q : Int)) := by
    show _ = D.tup ((F.map fun q => (headF q : Int)).map D.int)
    rw [List.map_map]
    rfl
  refine SB.cons (E1 := E (.dat (lM (bas F w)))) (M1 := MS S ++ (N ++ J)) (ST.no (ET.to (ET.not (ET.val (EV.c2 (ok_law_same W 1) (EV.lend (ds := [e]) (d := tV (F.map fun q => (headF q : Int))) (ok_pivots3 W) (EA.cons (EV.nm 5 (hn := c.nn)) EA.nil) (.cons (c.vw S J) .nil) ⟨e, _, rfl, rfl, rfl, rfl, many, F, c.hb, c.hm, hpv.symm⟩ (NoL.ints _)) (EV.to (EV.tuple (ds := F.map fun q => D.int (headF q : Int)) (LC.ev (LC.lM 13 (xs := F) (f := lV) (g := fun q => .int (headF q : Int)) (own := [("row", 13)]) (by rfl) c_law_large.nd rfl (EV.nm 3) rfl (Nat.le_refl _) OkM.refl (by omega) (fun q hq M => EV.c1 (ok_law_first W) (EV.nm 13) ⟨q, rfl, by rw [c.fw q hq]; omega, rfl⟩))) rfl W.b.tuple) (by rw [hpv])) ⟨rfl, fit_V _ (by rw [List.length_map]; omega), rfl⟩))) rfl) SB.nil) h
/-- three vectors -/
theorem large_three (W : Wd g) (c : LgC F many w oa e N) {S : SS} {du : O} (hG : Gd S) : ∃ S', Gd S' ∧ ∀ r, SB (lgCc g) (lgB.drop 10) (lgE w rk F many oa du .no .no .no .no .no .no) (MS S' ++ (N ++ J)) r → SB (lgCc g) (lgB.drop 9) (lgE w rk F many oa du .no .no .no .no .no .no) (MS S ++ (N ++ J)) r := by
  let E0 : List O := lgE w rk F many oa du .no .no .no .no .no .no
  obtain ⟨f, f0, f1, f2⟩ := chain (S := SS) (n := 3) (I := fun _ s => Gd s) (P := fun i s s' => SB (lgCc g) (bodyOf (lgB.getD 9 (.Pass ⟨0, 0, 0, 0⟩))) (lgE w rk F many oa du (.dat (.int (i : Int))) .no .no .no .no .no) (MS s ++ (N ++ J)) (.nx (lgE w rk F many oa du (.dat (.int (i : Int))) .no .no .no .no .no) (MS s' ++ (N ++ J)))) (fun i hi s hs => by
    obtain ⟨s', v, h1, h2, run⟩ := vector_A W (S := s) (w := w) (F := F) (many := many) hs c.fl c.fw c.m0 c.m8 c.mv c.w0 c.w8
    refine ⟨s', SB.one (ST.no (M1 := MS s' ++ (N ++ J)) (ET.to (ET.not (ET.val (EV.lend (ds := [lM F, lM many, e, lV v]) (d := .bl true) (M1 := MS s' ++ (N ++ J)) (ok_law_asked W) (EA.cons (EV.nm 3) (EA.cons (EV.nm 4) (EA.cons (EV.nm 5 (hn := c.nn)) (EA.cons (EV.callS (L := N ++ J) (S := s) (S' := s') (d := lV v) (ds := [lM F, lM many, .int (w : Int)]) (fn_vector W) (EA.cons (EV.nm 0) (EA.cons (EV.nm 3) (EA.cons (EV.nm 4) (EA.cons (EV.nm 1) EA.nil)))) ⟨rfl, run⟩) EA.nil)))) (.cons (.dat _) (.cons (.dat _) (.cons (c.vw s' J) (.cons (.dat _) .nil)))) ⟨F, many, e, v, w, c.as h2, rfl, rfl, rfl, rfl⟩ (NoL.bl _)))) rfl) SB.nil), h1⟩) S hG
  refine ⟨f 3, f1 3 (Nat.le_refl _), fun r h => SB.cons (E1 := E0) (M1 := MS (f 3) ++ (N ++ J)) (ST.forN 7 (n := 3) (E_ := fun _ => E0) (M_ := fun k => MS (f k) ++ (N ++ J)) (EI.rng1 (j := 3) EV.int W.b.range (by decide)) Fg.refl (by rw [f0]) (fun _ _ => True.intro) c_law_large.nd (fun i hi => ?_)) h⟩
  rw [atI0_eq]
  exact ⟨_, Fg.cons (Fg.cons (Fg.cons (Fg.cons (Fg.cons (Fg.cons (Fg.cons (Fg.no Fg.refl))))))), f2 i hi⟩
end
end
end
section
section
variable {g : Pg}
theorem NB_last (y : TS) : (NB y)[3 + y.b.length]? = some (some [.adr 2, .dat (lM y.t), .dat (lM y.b)]) := by
  unfold NB
  rw [show 3 + y.b.length = y.b.length + 1 + 1 + 1 by omega]
  show (List.replicate y.b.length none ++ [_])[y.b.length]? = _
  rw [List.getElem?_append_right (by rw [List.length_replicate]; exact Nat.le_refl _), List.length_replicate, Nat.sub_self]
  rfl
def NR (l : Nat) (y : TS) : Mem := rnN l (none :: none :: (List.replicate y.b.length none ++ [some [.adr 2, .dat (lM y.t), .dat (lM y.b)]]))
theorem NB_rn (l : Nat) (y : TS) : rnN l (NB y) = cel y.o :: NR l y := rnN_data (ds := y.o.map lV)
theorem NB_at {S : SS} {L : Mem} (y : TS) : (MS S ++ (L ++ rnN L.length (NB y)))[L.length + (5 + y.b.length)]? = some (some [.adr (2 + L.length), .dat (lM y.t), .dat (lM y.b)]) := by
  rw [← List.append_assoc, List.getElem?_append_right (by rw [VJ_len]; omega), VJ_len, show L.length + (5 + y.b.length) - (2 + L.length) = 3 + y.b.length by omega]
  unfold rnN
  rw [List.getElem?_map, NB_last]
  show some (some [O.adr (rho [0, 1] (2 + L.length) 2), _, _]) = _
  rw [rho2 (Nat.le_refl 2), Nat.add_comm]
  rfl
variable {F many : List (List Int)} {w rk : Nat} {oa : O} {e : D} {N J : Mem}
theorem second_do (W : Wd g) (c : LgC F many w oa e N) {S : SS} {du : O} (hG : Gd S) : ∃ (S' : SS) (m2 : List (List Int)) (J2 : Mem) (chg : Bool), Gd S' ∧ m2 ≠ [] ∧ m2.length ≤ 8 ∧ (∀ q ∈ m2, VecOk w q) ∧ (chg = false → Sub m2 many ∧ Sub many m2) ∧ ∀ r, SB (lgCc g) (lgB.drop 13) (lgE w rk F many oa du .no (.dat (lM m2)) (.dat (.bl chg)) .no .no .no) (MS S' ++ (N ++ J2)) r → SB (lgCc g) (lgB.drop 10) (lgE w rk F many oa du .no .no .no .no .no .no) (MS S ++ (N ++ J)) r := by
  have hml : 0 < many.length := List.length_pos_iff.mpr c.m0
  have m8 := c.m8
  have w8 := c.w8
  obtain ⟨y, T, run⟩ := turned_B W (S := S) (rows := many) (n := many.length) (w := w) (ct := 4) (lim := 1000000) (d := lM many) hG sq_l rfl hml (by omega) c.w0 (by omega) (fun q hq => (c.mv q hq).1) (fun q hq z hz => (c.mv q hq).2 z hz) (by decide)
  have hol := T.ol
  have yv : ∀ q ∈ y.o, VecOk w q := fun q hq => ⟨T.ow q hq, T.ob q hq⟩
  have g1 : Gd (drS y.s 2) := T.gd.dr (by decide)
  let L : Mem := N ++ J
  let R : Mem := NR L.length y
  let E : O → O → List O := fun se ch => lgE w rk F many oa du .no se ch .no .no .no
  have pre : ∀ {r : Out}, SB (lgCc g) (lgB.drop 12) (E (.adr (2 + L.length)) (.dat (.bl (decide (drV y.s 2 = 1))))) (MS (drS y.s 2) ++ (L ++ (cel y.o :: R))) r → SB (lgCc g) (lgB.drop 10) (E .no .no) (MS S ++ L) r := fun {r} h => by
    refine SB.cons (E1 := E (.adr (2 + L.length)) .no) (M1 := MS y.s ++ (L ++ (cel y.o :: R))) (ST.to (ST.set 8 (EV.ixC (n := L.length + (5 + y.b.length)) (ps := [.adr (2 + L.length), .dat (lM y.t), .dat (lM y.b)]) (o := .adr (2 + L.length)) (i := 0) (EV.to (EV.callSN (L := L) (N := NB y) (S := S) (S' := y.s) (o := .adr (5 + many.length)) (ds := [lM many, .int 4, .int 1000000]) (fn_turned W) (EA.cons (EV.nm 0) (EA.cons (EV.nm 4) (EA.cons EV.int (EA.cons EV.int EA.nil)))) ⟨rfl, run⟩) (by
      show O.adr (rho [0, 1] (2 + L.length) (5 + many.length)) = _
      rw [rho2 (by omega), T.bl])) EV.int (NB_at y) rfl) c_law_large.nd) (by rw [NB_rn]; rfl)) ?_
    exact SB.cons (E1 := E (.adr (2 + L.length)) (.dat (.bl (decide (drV y.s 2 = 1))))) (M1 := MS (drS y.s 2) ++ (L ++ (cel y.o :: R))) (ST.set 9 (EV.cm (EV.draw (L := L ++ (cel y.o :: R)) (S := y.s) (m := 2) W T.gd (by decide) (by decide) (EV.nm 0) EV.int) EV.int CS.eqI) c_law_large.nd) h
  have fin : ∀ {S' : SS} {m2 : List (List Int)} {ch : Bool} {r : Out}, SB (lgCc g) (lgB.drop 13) (E (.dat (lM m2)) (.dat (.bl ch))) (MS S' ++ (N ++ (J ++ (none :: R)))) r → SB (lgCc g) (lgB.drop 13) (E (.adr (2 + L.length)) (.dat (.bl ch))) (MS S' ++ (L ++ (cel m2 :: R))) r := fun {S' m2 ch r} h => by
    refine SB.fz (jj := 8) (nn := 2 + L.length) (ds := m2.map lV) rfl mid_get ?_
    rw [mid_set, show L = N ++ J from rfl, List.append_assoc]
    exact h
  generalize hch : decide (drV y.s 2 = 1) = chg at pre
  cases chg with
  | false => exact ⟨drS y.s 2, y.o, _, false, g1, fun z => by rw [z] at hol; simp at hol; omega, by omega, yv, fun _ => ⟨T.s1, T.s2⟩, fun r h => pre (SB.cons (E1 := E (.adr (2 + L.length)) (.dat (.bl false))) (M1 := MS (drS y.s 2) ++ (L ++ (cel y.o :: R))) (ST.no (ET.val (EV.nm 9)) SB.nil) (fin h))⟩
  | true =>
    obtain ⟨S3, v, g3, hv, run2⟩ := vector_A W (S := drS y.s 2) (w := w) (F := F) (many := many) g1 c.fl c.fw c.m0 c.m8 c.mv c.w0 c.w8
    have hp : (0 : Int) < (many.length : Int) := by omega
    have hd := drV_in S3 hp
    obtain ⟨i, hi⟩ : ∃ i : Nat, (i : Int) = drV S3 (many.length : Int) := ⟨(drV S3 (many.length : Int)).toNat, by omega⟩
    have hil : i < y.o.length := by omega
    refine ⟨drS S3 (many.length : Int), y.o.set i v, _, true, g3.dr hp, fun z => by have := congrArg List.length z; rw [List.length_set] at this; simp at this; rw [this] at hol; simp at hol; omega, by rw [List.length_set]; omega, fun q hq => ?_, fun z => absurd z (by decide), fun r h => pre (SB.cons (E1 := E (.adr (2 + L.length)) (.dat (.bl true))) (M1 := MS (drS S3 (many.length : Int)) ++ (L ++ (cel (y.o.set i v) :: R))) (ST.yes (ET.val (EV.nm 9)) (SB.one (ST.to (ST.asg (M1 := MS S3 ++ (L ++ (cel y.o :: R))) (EV.callS (L := L ++ (cel y.o :: R)) (S := drS y.s 2) (S' := S3) (d := lV v) (ds := [lM F, lM many, .int (w : Int)]) (fn_vector W) (EA.cons (EV.nm 0) (EA.cons (EV.nm 3) (EA.cons (EV.nm 4) (EA.cons (EV.nm 1) EA.nil)))) ⟨rfl, run2⟩) (EG.sub (n := 2 + L.length) (jj := i) (i := (i : Int)) (ps := (y.o.map lV).map O.dat) (M2 := MS (drS S3 (many.length : Int)) ++ (L ++ (cel y.o :: R))) (EV.nm 8) (EV.to (EV.draw (L := L ++ (cel y.o :: R)) (S := S3) (m := (many.length : Int)) W g3 hp (by omega) (EV.nm 0) (EV.to (EV.lenC (nn := 2 + L.length) (ps := (y.o.map lV).map O.dat) (EV.nm 8) mid_get W.b.len) (by rw [cel_len, hol]))) (by rw [← hi])) mid_get (by rw [cel_len]; exact ixN_of hil))) ?_))) (fin h))⟩
    · rcases List.mem_or_eq_of_mem_set hq with hq | rfl
      · exact yv q hq
      · exact hv
    · rw [mid_set]
      show Out.nx _ (MS _ ++ (L ++ (some _ :: R))) = Out.nx _ (MS _ ++ (L ++ (some _ :: R)))
      rw [List.map_set, List.map_set]
end
end
section
section
variable {g : Pg} {F many : List (List Int)} {w rk : Nat} {oa : O} {e : D} {N J : Mem}
/-- the second lattice beside the first -/
theorem large_cmp (W : Wd g) (c : LgC F many w oa e N) {S : SS} {du : O} {m2 : List (List Int)} {chg : Bool} (hG : Gd S) (n0 : m2 ≠ []) (n8 : m2.length ≤ 8) (nv : ∀ q ∈ m2, VecOk w q) (ns : chg = false → Sub m2 many ∧ Sub many m2) : ∃ (S' : SS) (wi b : O), Gd S' ∧ ∀ r, SB (lgCc g) (lgB.drop 18) (lgE w rk F many oa du .no (.dat (lM m2)) (.dat (.bl chg)) wi b .no) (MS S' ++ (N ++ J)) r → SB (lgCc g) (lgB.drop 13) (lgE w rk F many oa du .no (.dat (lM m2)) (.dat (.bl chg)) .no .no .no) (MS S ++ (N ++ J)) r := by
  obtain ⟨pc, f⟩ := c.hf
  have w8 := c.w8
  have w0 := c.w0
  have m8 := c.m8
  have nw : ∀ q ∈ m2, q.length = w := fun q hq => (nv q hq).1
  obtain ⟨M1, M2⟩ := mx_of (w := w) n0 n8 nw w0 w8 (fun q hq z hz => (nv q hq).2 z hz)
  obtain ⟨B2, e0, hB2, he0, hb0⟩ := isC_ex M1
  obtain ⟨pc2, f2⟩ := hB2.hf
  rw [M2] at f2
  have red2 : ∀ v, VecOk w v → RedOk B2 w v := fun v hv => RedOk.of f2 hv.1 w8 he0 hb0 (bd20 hv.2)
  obtain ⟨e2, he2, run⟩ := given_A W (S := S) (d := lM m2) (m := m2) hG sq_l (by omega)
  have hI2 : IsM e2 m2 := ⟨M1, he2⟩
  have s1 : Sub F many := c.hb.s2
  have s2 : Sub many F := c.hb.s1
  let wi : Bool := m2.all (zr F)
  let E : O → O → List O := fun wi b => lgE w rk F many oa du .no (.dat (lM m2)) (.dat (.bl chg)) wi b .no
  let M : Mem := MS (drS S 3) ++ (N ++ J)
  have a5 : EA (lgCc g) [.Name "a" ⟨0, 0, 0, 0⟩] (E .no .no) M [oa] M := EA.cons (EV.nm 5 (hn := c.nn)) EA.nil
  refine ⟨drS S 3, .dat (.bl wi), .dat e2, hG.dr (by decide), fun r h => ?_⟩
  refine SB.cons (E1 := E (.dat (.bl wi)) .no) (M1 := MS S ++ (N ++ J)) (ST.set 10 (EV.to (EV.cm (LC.ev (LC.lMF 13 (xs := m2) (f := lV) (g := lV) (t := fun q => !decide (red F q F.length = List.replicate w 0)) (own := [("row", 13)]) (by rfl) c_law_large.nd rfl (EV.nm 8) rfl (Nat.le_refl _) OkM.refl (by omega) (fun q hq M => ET.cm (EV.ix (d1 := leftR F q) (d := lV (red F q F.length)) (i := 1) (EV.c2 (ok_law_left W) (EV.nm 3) (EV.nm 13) ⟨F, w, q, c.red q (nv q hq), sq_l, rfl, rfl⟩) EV.int rfl) (EV.zeros (EV.nm 1) (EV.lst (ds := [.int 0]) (EA.cons EV.int EA.nil) (by decide)) (by omega)) CS.neL) (fun q _ _ M => EV.nm 13))) (EV.lst (ds := []) EA.nil (by decide)) (CS.eqN (m := m2.filter fun q => !decide (red F q F.length = List.replicate w 0)) (m' := []))) (by rw [within_eq f nw])) c_law_large.nd) ?_
  refine SB.cons (E1 := E (.dat (.bl wi)) (.dat e2)) (M1 := M) (ST.set 11 (EV.callS (L := N ++ J) (S := S) (S' := drS S 3) (d := e2) (ds := [lM m2]) (fn_given W) (EA.cons (EV.nm 0) (EA.cons (EV.nm 8) EA.nil)) ⟨rfl, run⟩) c_law_large.nd) ?_
  refine SB.cons (E1 := E (.dat (.bl wi)) (.dat e2)) (M1 := M) (ST.no (ET.to (ET.not (ET.val (EV.c2 (ok_law_same W 0) (EV.lend (ds := [e, e2]) (d := .bl wi) (ok_is_within W) (EA.cons (EV.nm 5 (hn := c.nn)) (EA.cons (EV.nm 11) EA.nil)) (.cons (c.vw _ J) (.cons (.dat _) .nil)) ⟨e, e2, _, rfl, rfl, rfl, rfl, many, F, m2, c.hb, c.hm, hI2, by rw [c.wd, M2], fun q hq => by rw [c.wd]; exact c.red q (nv q hq), rfl⟩ (NoL.bl _)) (EV.nm 10) ⟨rfl, True.intro, rfl⟩))) rfl) SB.nil) ?_
  have tail : SB (lgCc g) (lgB.drop 17) (E (.dat (.bl wi)) (.dat e2)) M r := by
    exact SB.cons (E1 := E (.dat (.bl wi)) (.dat e2)) (M1 := M) (ST.no (ET.to (EW.et (EW.or (k1 := false) (k2 := false) (ET.to (ET.not (ET.val (EV.lend (ds := [e, lM many]) (d := .bl true) (ok_law_kept W) (EA.cons (EV.nm 5 (hn := c.nn)) (EA.cons (EV.nm 4) EA.nil)) (.cons (c.vw _ J) (.cons (.dat _) .nil)) ⟨e, lM many, _, rfl, rfl, rfl, rfl, many, c.hm.2, sq_l, by omega, rfl⟩ (NoL.bl _)))) rfl) (fun _ => EW.or1 (ET.to (ET.not (ET.val (EV.c2 (ok_law_kept W) (EV.nm 11) (EV.nm 8) ⟨m2, he2, sq_l, by omega, rfl⟩))) rfl)) (fun z => nomatch z))) rfl) SB.nil) h
  refine SB.cons (E1 := E (.dat (.bl wi)) (.dat e2)) (M1 := M) ?_ tail
  cases chg with
  | false =>
    obtain ⟨t1, t2⟩ := ns rfl
    have eB : B2 = F := f2.eq f ((hB2.s2.trans t1).trans s2) ((s1.trans t2).trans hB2.s1)
    subst eB
    have hz : many.all (zr B2) = true := (all_zr f fun q hq => (c.mv q hq).1).mpr s2
    refine ST.yes (ET.to (ET.not (ET.val (EV.nm 9))) rfl) (SB.one (ST.no (ET.to (EW.et (EW.or (k1 := false) (k2 := false) (ET.to (ET.not (ET.val (EV.c2 (ok_law_same W 0) (EV.lend (ds := [e, e2]) (d := .bl true) (ok_same_lattice W) (EA.cons (EV.nm 5 (hn := c.nn)) (EA.cons (EV.nm 11) EA.nil)) (.cons (c.vw _ J) (.cons (.dat _) .nil)) ⟨e, e2, _, rfl, rfl, rfl, rfl, many, B2, m2, B2, c.hb, hB2, c.hm, hI2, by rw [c.wd, M2], by rw [decide_eq_true rfl]⟩ (NoL.bl _)) EV.bl ⟨rfl, True.intro, rfl⟩))) rfl) (fun _ => EW.or1 (ET.to (ET.not (ET.val (EV.c2 (ok_law_same W 0) (EV.lend (ds := [e2, e]) (d := .bl true) (ok_is_within W) (EA.cons (EV.nm 11) (EA.cons (EV.nm 5 (hn := c.nn)) EA.nil)) (.cons (.dat _) (.cons (c.vw _ J) .nil)) ⟨e2, e, _, rfl, rfl, rfl, rfl, m2, B2, many, hB2, hI2, c.hm, by rw [c.wd, M2], fun q hq => by rw [M2]; exact red2 q (c.mv q hq), by rw [hz]⟩ (NoL.bl _)) EV.bl ⟨rfl, True.intro, rfl⟩))) rfl)) (fun z => nomatch z))) rfl) SB.nil))
  | true =>
    by_cases hw : wi = true
    · exact ST.no (ET.to (ET.not (ET.val (EV.nm 9))) rfl) (SB.one (ST.no (ET.to (EW.et (EW.and (k1 := false) (k2 := false) (ET.to (ET.not (ET.val (EV.nm 10))) (by rw [hw]; rfl)) (fun z => nomatch z) (fun _ => rfl))) rfl) SB.nil))
    · have hd : decide (bas B2 w = bas F w) = false := decide_eq_false fun z => hw ((all_zr f nw).mpr (hB2.s1.trans (bas_eq_sub z)))
      have hw' : wi = false := by
        cases h : wi with
        | true => exact absurd h hw
        | false => rfl
      exact ST.no (ET.to (ET.not (ET.val (EV.nm 9))) rfl) (SB.one (ST.no (ET.to (EW.et (EW.and (k1 := true) (k2 := false) (ET.to (ET.not (ET.val (EV.nm 10))) (by rw [hw']; rfl)) (fun _ => EW.and1 (ET.to (ET.not (ET.val (EV.c2 (ok_law_same W 0) (EV.lend (ds := [e2, e]) (d := .bl false) (ok_same_lattice W) (EA.cons (EV.nm 11) (EA.cons (EV.nm 5 (hn := c.nn)) EA.nil)) (.cons (.dat _) (.cons (c.vw _ J) .nil)) ⟨e2, e, _, rfl, rfl, rfl, rfl, m2, B2, many, F, hB2, c.hb, hI2, c.hm, by rw [c.wd, M2], by rw [M2, hd]⟩ (NoL.bl _)) EV.bl ⟨rfl, True.intro, rfl⟩))) rfl)) (fun z => nomatch z))) rfl) SB.nil))
theorem prApp {α β : Type} {R : α → β → Prop} : ∀ {a c : List α} {b d : List β}, Paired R a b → Paired R c d → Paired R (a ++ c) (b ++ d)
  | _, _, _, _, .nil, s => s
  | _, _, _, _, .cons h r, s => .cons h (prApp r s)
theorem GivB.cell {m : List (List Int)} {o : O} {N : Mem} (h : GivB m o N) : (∃ ds : List D, o = .adr 2 ∧ N = [some (ds.map .dat)] ∧ Sq (.lst ds) m ∧ ds.length = m.length) ∨ (o = .dat (tM m) ∧ N = []) := by
  cases h with
  | l => exact .inl ⟨m.map lV, rfl, rfl, sq_l, List.length_map _⟩
  | t => exact .inl ⟨m.map tV, rfl, rfl, sq_tl, List.length_map _⟩
  | d => exact .inr ⟨rfl, rfl⟩
end
end
section
section
variable {g : Pg} {F many : List (List Int)} {w rk : Nat} {oa : O} {e : D} {N J : Mem}
/-- one vector more -/
theorem large_end (W : Wd g) (c : LgC F many w oa e N) (hgv : GivB many oa N) {S : SS} {du se ch wi b : O} (hG : Gd S) : ∃ (S' : SS) (J' : Mem), Gd S' ∧ SB (lgCc g) (lgB.drop 18) (lgE w rk F many oa du .no se ch wi b .no) (MS S ++ (N ++ J)) (.rt (.dat (.bl true)) (MS S' ++ J')) := by
  obtain ⟨pc, f⟩ := c.hf
  have w8 := c.w8
  have w0 := c.w0
  have m8 := c.m8
  obtain ⟨S', v, g1, hv, run⟩ := vector_A W (S := S) (w := w) (F := F) (many := many) hG c.fl c.fw c.m0 c.m8 c.mv c.w0 c.w8
  let E : O → List O := fun du => lgE w rk F many oa du .no se ch wi b (.dat (lV v))
  have first : ∀ {r : Out}, SB (lgCc g) (lgB.drop 19) (E du) (MS S' ++ (N ++ J)) r → SB (lgCc g) (lgB.drop 18) (lgE w rk F many oa du .no se ch wi b .no) (MS S ++ (N ++ J)) r := fun {r} h => SB.cons (E1 := E du) (M1 := MS S' ++ (N ++ J)) (ST.set 12 (EV.callS (L := N ++ J) (S := S) (S' := S') (d := lV v) (ds := [lM F, lM many, .int (w : Int)]) (fn_vector W) (EA.cons (EV.nm 0) (EA.cons (EV.nm 3) (EA.cons (EV.nm 4) (EA.cons (EV.nm 1) EA.nil)))) ⟨rfl, run⟩) c_law_large.nd) h
  rcases hgv.cell with ⟨ds, rfl, rfl, hsq, hdl⟩ | ⟨rfl, rfl⟩
  · -- a list
    have vw : ∀ S J, View (MS S ++ ([some (ds.map O.dat)] ++ J)) (.adr 2) (.lst ds) := fun S J => .cel rfl (Views.ints _)
    have len : ∀ {p1 p2 p3 : Pos}, EV (lgCc g) (.Call (.Name "len" p1) [.Name "a" p2] [] p3) (E du) (MS S' ++ ([some (ds.map O.dat)] ++ J)) (.dat (.int (many.length : Int))) (MS S' ++ ([some (ds.map O.dat)] ++ J)) := EV.to (EV.lenC (nn := 2) (ps := ds.map O.dat) (EV.nm 5) rfl W.b.len) (by rw [List.length_map, hdl])
    by_cases h8 : (many.length : Int) < 8
    · -- and short
      let N2 : Mem := [some ((ds ++ [lV v]).map O.dat)]
      have vw2 : ∀ S J, View (MS S ++ (N2 ++ J)) (.adr 2) (.lst (ds ++ [lV v])) := fun S J => .cel rfl (Views.ints _)
      have sq2 : Sq (.lst (ds ++ [lV v])) (many ++ [v]) := by
        obtain ⟨ds', hs, hp⟩ := hsq
        cases hs
        exact ⟨ds ++ [lV v], rfl, prApp hp (.cons rfl .nil)⟩
      obtain ⟨M1, M2⟩ := mx_of (m := many ++ [v]) (w := w) (by simp) (by rw [List.length_append, List.length_singleton]; omega) (fun q hq => by
        rcases List.mem_append.mp hq with hq | hq
        · exact (c.mv q hq).1
        · rw [List.mem_singleton.mp hq]
          exact hv.1) w0 w8 (fun q hq z hz => by
        rcases List.mem_append.mp hq with hq | hq
        · exact (c.mv q hq).2 z hz
        · rw [List.mem_singleton.mp hq] at hz
          exact hv.2 z hz)
      obtain ⟨B2, e0, hB2, he0, hb0⟩ := isC_ex M1
      obtain ⟨pc2, f2⟩ := hB2.hf
      rw [M2] at f2
      have R2 : RedOk B2 (Ab.wd (many ++ [v])) v := by
        rw [M2]
        exact RedOk.of f2 hv.1 w8 he0 hb0 (bd20 hv.2)
      have RF : RedOk F (Ab.wd many) v := by
        rw [c.wd]
        exact c.red v hv
      obtain ⟨q1, q2⟩ := more_eq f f2 c.hb.s1 c.hb.s2 hB2.s1 hB2.s2 hv.1
      have hI2 : IsM (.lst (ds ++ [lV v])) (many ++ [v]) := ⟨M1, sq2⟩
      have hI1 : IsM (.lst ds) many := ⟨c.hm.1, hsq⟩
      have hIm : IsM (tM many) many := ⟨c.hm.1, sq_t⟩
      let Mx1 : Mem := MS S' ++ ([some (ds.map O.dat)] ++ J)
      let Mx2 : Mem := MS S' ++ (N2 ++ J)
      let du2 : O := .dat (.bl (zr F v))
      refine ⟨S', N2 ++ J, g1, first (SB.stop (ST.yes (M1 := Mx1) (ET.to (EW.et (EW.and (k1 := true) (k2 := true) (ET.to (ET.val (EV.isListV (EV.nm 5) (vw S' J) W.b.isinstance W.b.list)) rfl) (fun _ => EW.and1 (ET.to (ET.cm len EV.int CS.ltI) (decide_eq_true h8))) (fun z => nomatch z))) rfl) ?_))⟩
      refine SB.cons (E1 := E du2) (M1 := Mx1) (ST.set 6 (EV.to (EV.cm (EV.ix (d1 := leftR F v) (d := lV (red F v F.length)) (i := 1) (EV.c2 (ok_law_left W) (EV.nm 3) (EV.nm 12) ⟨F, w, v, c.red v hv, sq_l, rfl, rfl⟩) EV.int rfl) (EV.zeros (EV.nm 1) (EV.lst (ds := [.int 0]) (EA.cons EV.int EA.nil) (by decide)) (by omega)) CS.eqL) (by show _ = O.dat (.bl (zr F v)); rw [zr_eq f hv.1])) c_law_large.nd) ?_
      refine SB.cons (E1 := E du2) (M1 := Mx1) (ST.no (ET.to (ET.not (ET.val (EV.c2 (ok_law_same W 0) (EV.lend (ds := [.lst ds, lV v]) (d := .bl (zr F v)) (ok_is_member W) (EA.cons (EV.nm 5) (EA.cons (EV.list (EV.nm 12) rfl W.b.list) EA.nil)) (.cons (vw S' J) (.cons (.dat _) .nil)) ⟨.lst ds, lV v, _, rfl, rfl, rfl, rfl, many, F, v, c.hb, hI1, c.isV hv rfl, RF, rfl⟩ (NoL.bl _)) (EV.nm 6) ⟨rfl, True.intro, rfl⟩))) rfl) SB.nil) ?_
      refine SB.cons (E1 := E du2) (M1 := Mx2) (ST.to (ST.exp (EV.append (n := 2) (ps := ds.map O.dat) (M2 := Mx1) (EV.nm 5) (EV.list (EV.nm 12) rfl W.b.list) rfl rfl (by rw [List.length_map]; omega))) ?_) ?_
      · show Out.nx _ (_ :: _ :: some (ds.map O.dat ++ [O.dat (lV v)]) :: J) = Out.nx _ (_ :: _ :: some ((ds ++ [lV v]).map O.dat) :: J)
        rw [List.map_append]
        rfl
      · exact SB.one (ST.ret (EV.and (k1 := true) (k2 := true) (EV.c2 (ok_law_same W 0) (EV.lend (ds := [.lst (ds ++ [lV v]), lV v]) (d := .bl true) (ok_is_member W) (EA.cons (EV.nm 5) (EA.cons (EV.list (EV.nm 12) rfl W.b.list) EA.nil)) (.cons (vw2 S' J) (.cons (.dat _) .nil)) ⟨.lst (ds ++ [lV v]), lV v, _, rfl, rfl, rfl, rfl, many ++ [v], B2, v, hB2, hI2, c.isV hv rfl, R2, by rw [q1]⟩ (NoL.bl _)) EV.bl ⟨rfl, True.intro, rfl⟩) (fun _ => EV.and1 (EV.c2 (ok_law_same W 0) (EV.lend (ds := [.lst (ds ++ [lV v]), tM many]) (d := .bl (zr F v)) (ok_same_lattice W) (EA.cons (EV.nm 5) (EA.cons (EV.c1 (ok_law_frozen W) (EV.nm 4) ⟨many, sq_l, by omega, rfl⟩) EA.nil)) (.cons (vw2 S' J) (.cons (.dat _) .nil)) ⟨.lst (ds ++ [lV v]), tM many, _, rfl, rfl, rfl, rfl, many ++ [v], B2, many, F, hB2, c.hb, hI2, hIm, by rw [M2, c.wd], by rw [M2, q2]⟩ (NoL.bl _)) (EV.nm 6) ⟨rfl, True.intro, rfl⟩)) (fun z => nomatch z)))
    · exact ⟨S', _, g1, first (SB.cons (E1 := E du) (M1 := MS S' ++ ([some (ds.map O.dat)] ++ J)) (ST.no (ET.to (EW.et (EW.and (k1 := true) (k2 := false) (ET.to (ET.val (EV.isListV (EV.nm 5) (vw S' J) W.b.isinstance W.b.list)) rfl) (fun _ => EW.and1 (ET.to (ET.cm len EV.int CS.ltI) (decide_eq_false h8))) (fun z => nomatch z))) rfl) SB.nil) (SB.one (ST.ret EV.bl)))⟩
  · exact ⟨S', _, g1, first (SB.cons (E1 := E du) (M1 := MS S' ++ ([] ++ J)) (ST.no (ET.to (EW.et (EW.and (k1 := false) (k2 := false) (ET.to (ET.val (EV.isListV (d := tM many) (EV.nm 5) (.dat _) W.b.isinstance W.b.list)) rfl) (fun z => nomatch z) (fun _ => rfl))) rfl) SB.nil) (SB.one (ST.ret EV.bl)))⟩
theorem fn_large (W : Wd g) : FN g "_law_large" 42 (fun os M o M' => os.length = 1 ∧ Run g n_law_large s_law_large 41 os M o M') := FN.run (ps := ["state"]) W.t_law_large c_law_large (fun _ _ _ _ _ _ us hl => match us, hl with | [_], _ => rfl)
theorem large_A (W : Wd g) {S : SS} (hG : Gd S) : ∃ S', Gd S' ∧ Run g n_law_large s_law_large 41 [.adr 1] (MS S) (.dat (.bl true)) (MS S') := by
  obtain ⟨v1, v2⟩ := drV_in S (m := 8) (by decide)
  have g1 : Gd (drS S 8) := hG.dr (by decide)
  obtain ⟨w, hw⟩ : ∃ w : Nat, (w : Int) = 1 + drV S 8 := ⟨(1 + drV S 8).toNat, by omega⟩
  have w0 : 0 < w := by omega
  have w8 : w ≤ 8 := by omega
  have hp : (0 : Int) < (w : Int) + 1 := by omega
  obtain ⟨u1, u2⟩ := drV_in (drS S 8) hp
  have g2 : Gd (drS (drS S 8) ((w : Int) + 1)) := g1.dr hp
  obtain ⟨rk, hrk⟩ : ∃ rk : Nat, (rk : Int) = drV (drS S 8) ((w : Int) + 1) := ⟨(drV (drS S 8) ((w : Int) + 1)).toNat, by omega⟩
  obtain ⟨S3, F, pc, g3, Fl, hF, Fb, run1⟩ := basis_A W (S := drS (drS S 8) ((w : Int) + 1)) (w := w) (r := rk) g2 (by omega) w0 w8
  have Fw := hF.wid
  obtain ⟨x, P, x0, run2⟩ := passed_A W (S := S3) (F := F) (w := w) (lim := 1000000) (d := lM F) g3 sq_l (by omega) Fw Fb w0 w8 (by decide)
  obtain ⟨pgd, pl8, pow, pob, ps1, ps2⟩ := P
  generalize x.o = many at x0 pl8 pow pob ps1 ps2 run2
  generalize x.s = S4 at pgd run2
  obtain ⟨oa, N, hgv, run3⟩ := given_B W (S := S4) (d := lM many) (m := many) pgd sq_l (by omega)
  obtain ⟨e, he, hrn, hvw, hren, hnn⟩ := hgv.view
  obtain ⟨M1, M2⟩ := mx_of (w := w) x0 pl8 pow w0 w8 pob
  obtain ⟨B, e0, hB, he0, hBb⟩ := isC_ex M1
  obtain ⟨pcB, fB⟩ := hB.hf
  have eB : B = F := by
    rw [M2] at fB
    exact fB.eq hF (hB.s2.trans ps1) (ps2.trans hB.s1)
  subst eB
  have c : LgC B many w oa e N := ⟨hB, ⟨M1, he⟩, M2, w0, w8, fun v hv => RedOk.of hF hv.1 w8 he0 hBb (bd20 hv.2), fun q hq => ⟨pow q hq, pob q hq⟩, x0, pl8, Fw, by omega, ⟨pc, hF⟩, hvw, hnn⟩
  have g4 : Gd (drS S4 3) := pgd.dr (by decide)
  obtain ⟨S5, g5, h5⟩ := large_three (J := []) (rk := rk) W c (S := drS S4 3) (du := .dat (lM (bas B w))) g4
  obtain ⟨S6, m2, J2, chg, g6, n0, n8, nv, ns, h6⟩ := second_do (J := []) (rk := rk) W c (S := S5) (du := .dat (lM (bas B w))) g5
  obtain ⟨S7, wi, b, g7, h7⟩ := large_cmp (J := J2) (rk := rk) W c (S := S6) (du := .dat (lM (bas B w))) g6 n0 n8 nv ns
  obtain ⟨S8, J8, g8, h8⟩ := large_end (J := J2) (rk := rk) W c hgv (S := S7) (du := .dat (lM (bas B w))) (se := .dat (lM m2)) (ch := .dat (.bl chg)) (wi := wi) (b := b) g7
  have all := large_first (J := []) (rk := rk) W c (S := drS S4 3) (h5 _ (h6 _ (h7 _ h8)))
  refine ⟨S8, g8, Nat.le_refl _, True.intro, lowS (L := []) (Nat.succ_pos 1) LowM.nil, J8, ?_⟩
  let E0 : O → O → O → O → O → List O := fun w r f m a => [.adr 1, w, r, f, m, a, .no, .no, .no, .no, .no, .no, .no, .no]
  refine SB.cons (E1 := E0 (.dat (.int (w : Int))) .no .no .no .no) (M1 := MS (drS S 8)) (ST.set 1 (EV.to (EV.add EV.int (EV.draw0 (S := S) (m := 8) W hG (by decide) (by decide) (EV.nm 0) EV.int)) (by rw [hw])) c_law_large.nd) ?_
  refine SB.cons (E1 := E0 (.dat (.int (w : Int))) (.dat (.int (rk : Int))) .no .no .no) (M1 := MS (drS (drS S 8) ((w : Int) + 1))) (ST.set 2 (EV.to (EV.draw0 (S := drS S 8) (m := (w : Int) + 1) W g1 hp (by omega) (EV.nm 0) (EV.add (EV.nm 1) EV.int)) (by rw [hrk])) c_law_large.nd) ?_
  refine SB.cons (E1 := E0 (.dat (.int (w : Int))) (.dat (.int (rk : Int))) (.dat (lM B)) .no .no) (M1 := MS S3 ++ []) (ST.set 3 (EV.callS (L := []) (S := drS (drS S 8) ((w : Int) + 1)) (S' := S3) (d := lM B) (ds := [.int (w : Int), .int (rk : Int)]) (fn_basis W) (EA.cons (EV.nm 0) (EA.cons (EV.nm 1) (EA.cons (EV.nm 2) EA.nil))) ⟨rfl, run1⟩) c_law_large.nd) ?_
  refine SB.cons (E1 := E0 (.dat (.int (w : Int))) (.dat (.int (rk : Int))) (.dat (lM B)) (.dat (lM many)) .no) (M1 := MS S4 ++ []) (ST.set 4 (EV.callS (L := []) (S := S3) (S' := S4) (d := lM many) (ds := [lM B, .int (w : Int), .int 1000000]) (fn_passed W) (EA.cons (EV.nm 0) (EA.cons (EV.nm 3) (EA.cons (EV.nm 1) (EA.cons EV.int EA.nil)))) ⟨rfl, run2⟩) c_law_large.nd) ?_
  refine SB.cons (E1 := lgE w rk B many oa .no .no .no .no .no .no .no) (M1 := MS (drS S4 3) ++ (N ++ [])) (ST.to (ST.set 5 (EV.callSN (L := []) (N := N) (S := S4) (S' := drS S4 3) (o := oa) (ds := [lM many]) (fn_given W) (EA.cons (EV.nm 0) (EA.cons (EV.nm 4) EA.nil)) ⟨rfl, run3⟩) c_law_large.nd) ?_) all
  show Out.nx [_, _, _, _, _, oa.ren (rho [0, 1] (2 + 0)), _, _, _, _, _, _, _, _] (MS (drS S4 3) ++ ([] ++ rnN 0 N)) = _
  rw [hren, hrn, List.append_nil, List.nil_append]
end
end
section
/-! ### the law -/
section
variable {g : Pg}
theorem KS.listS {C : Cc} {M : Mem} {o : O} {ns : List Int} (h : Scr C.g.K o (ns.map V.int)) : KS C (.type "list") [o] M (.adr M.length) (M ++ [rowC ns]) := ⟨_, fun X hX => by
  have := call_list_of (X := X)
  rw [hX.K] at this
  exact this, fun I H adr σ E vs Q s hv q => by
  obtain ⟨v, ev, hz⟩ := vsOne hv
  subst ev
  obtain ⟨p, rfl, hq⟩ := scr_sq h hz s.ex
  refine ⟨p, _, rfl, .inl hq, fun l hl => ?_⟩
  obtain ⟨s2, g2, r2⟩ := s.cel hl (Vs.reps (reps_ints (I := I) ns))
  exact q _ _ _ _ s2 g2 ⟨l, r2, rfl⟩⟩
theorem EV.listS {C : Cc} {E : List O} {M M' : Mem} {a : Expr} {o : O} {ns : List Int} {p pos : Pos} (h : EV C a E M o M') (hs : Scr C.g.K o (ns.map V.int)) (hm : Bt C.g "list") (hg : C.sc.names.lookup ("list" : Str) = some .globalImplicit := by rfl) (he : ∀ env, starEach [a] env = (false, eval a env) :: starEach [] env := by intro _; rfl) : EV C (.Call (.Name "list" p) [a] [] pos) E M (.adr M'.length) (M' ++ [rowC ns]) :=
  EV.bt (KS.listS hs) h hm bv_list (by decide) (by decide) hg he
def StS (ns : List Int) : SS := ⟨ns, 0, 88172645463325252, 0⟩
theorem S0_gd (ns : List Int) : Gd (StS ns) := ⟨by show (0 : Int) ≤ 0; decide, by show (0 : Int) ≤ 88172645463325252; decide, by show (88172645463325252 : Int) < PP; unfold PP; decide⟩
theorem ok_law_start (W : Wd g) : FN g "_law_start" 1 (fun os M o M' => ∃ (o0 : O) (ns : List Int), Scr g.K o0 (ns.map V.int) ∧ o0 ≠ .no ∧ os = [o0] ∧ M = [] ∧ o = .adr 1 ∧ M' = MS (StS ns)) := by
  refine FN.mk W.t_law_start c_law_start (fun _ _ _ _ _ _ us hl => match us, hl with | [_], _ => rfl) (fun os M o M' h => by obtain ⟨o0, ns, _, _, rfl, _⟩ := h; rfl) (fun os M o M' h => ?_)
  obtain ⟨o0, ns, hs, hn, rfl, rfl, rfl, rfl⟩ := h
  exact SB.one (ST.ret (EV.cel (os := [.adr 0, .dat (.int 0), .dat (.int 88172645463325252), .dat (.int 0)]) (M' := [rowC ns]) (EA.cons (EV.listS (C := mkC g n_law_start s_law_start 0) (E := [o0]) (M := []) (M' := []) (EV.nm 0 (hn := hn)) hs W.b.list) (EA.cons EV.int (EA.cons EV.int (EA.cons EV.int EA.nil)))) (by show 4 ≤ 100000; decide)))
theorem mixNew {M : Mem} : Mix [] [] [] M M := by
  refine ⟨rfl, List.nodup_nil, by show M.length = 0 + (M.length - 0); omega, fun i k h => by simp at h, fun k os h => .inr ⟨k, os, ?_, .inr (Nat.zero_le _), h, ?_⟩⟩
  · show 0 + (k - 0) = k
    omega
  · have e : ∀ k, rho [] 0 k = k := fun k => by
      show 0 + (k - 0) = k
      omega
    have e2 : (fun x : O => x.ren (rho [] ([] : Mem).length)) = fun x => x := by
      funext x
      show x.ren (rho [] 0) = x
      rw [show rho [] 0 = fun k => k from funext e]
      cases x with
      | obj C fs =>
        show O.obj C _ = _
        congr 1
        exact List.map_id' fs
      | _ => rfl
    rw [e2, List.map_id']
abbrev lb : List Stmt := defBody s_law
abbrev C11 (g : Pg) : Cc := mkC g n_law s_law 42
theorem law_run (W : Wd g) {o0 : O} {ns : List Int} (hs : Scr g.K o0 (ns.map V.int)) (hn : o0 ≠ .no) (hl : ns.length ≤ 63) : ∃ M', SB (C11 g) lb (pad n_law [o0]) [] (.rt (.dat (.bl true)) M') := by
  have g0 := S0_gd ns
  have hd := drV_in (StS ns) (m := 3) (by decide)
  have g1 : Gd (drS (StS ns) 3) := g0.dr (by decide)
  have ho : ([o0] : List O) = ([o0] : List O).map (·.ren (rho [] ([] : Mem).length)) := by
    obtain ⟨a, u, rfl, _⟩ := hs
    rfl
  have start : ∀ {q : Out}, SB (C11 g) (lb.drop 1) [o0, .adr 1] (MS (StS ns)) q → SB (C11 g) lb (pad n_law [o0]) [] q := fun {q} h => SB.cons (E1 := [o0, .adr 1]) (M1 := MS (StS ns)) (ST.set 1 (EV.callG (ι := []) (o0 := .adr 1) (M0 := []) (M0' := MS (StS ns)) (ok_law_start W) (EA.cons (EV.nm 0 (hn := hn)) EA.nil) ⟨o0, ns, hs, hn, rfl, rfl, rfl, rfl⟩ ho mixNew) c_law.nd) h
  by_cases h0 : drV (StS ns) 3 = 0
  · obtain ⟨S', _, run⟩ := small_A W g1
    exact ⟨_, start (SB.stop (ST.yes (M1 := MS (drS (StS ns) 3)) (ET.to (ET.cm (EV.draw0 (S := StS ns) (m := 3) W g0 (by decide) (by decide) (EV.nm 1) EV.int) EV.int CS.eqI) (decide_eq_true h0)) (SB.one (ST.ret (EV.callS (L := []) (S := drS (StS ns) 3) (S' := S') (d := .bl true) (ds := []) (fn_small W) (EA.cons (EV.nm 1) EA.nil) ⟨rfl, run⟩)))))⟩
  · obtain ⟨S', _, run⟩ := large_A W g1
    exact ⟨_, start (SB.cons (E1 := [o0, .adr 1]) (M1 := MS (drS (StS ns) 3)) (ST.no (M1 := MS (drS (StS ns) 3)) (ET.to (ET.cm (EV.draw0 (S := StS ns) (m := 3) W g0 (by decide) (by decide) (EV.nm 1) EV.int) EV.int CS.eqI) (decide_eq_false h0)) SB.nil) (SB.one (ST.ret (EV.callS (L := []) (S := drS (StS ns) 3) (S' := S') (d := .bl true) (ds := []) (fn_large W) (EA.cons (EV.nm 1) EA.nil) ⟨rfl, run⟩))))⟩
def spLaw (K : PySem.W.Frag) : Sp := fun vs H Q _ => ∃ (a : Addr) (ns : List Int), vs = [.ref a] ∧ SqL K H a (ns.map V.int) ∧ ns.length ≤ 63 ∧ LamX.Tabs TabCtx.T H ∧ ∀ H', Q (.bl true) H'
open Classical in
theorem scr_of {K : PySem.W.Frag} {H : Hp} {a : Addr} {xs : List V} (h : SqL K H a xs) : ∃ (I : Hp) (u : Option HO), Ex I H ∧ (∀ o, u = some o → I a = some o) ∧ Scr K (.scr a u) xs ∧ ∀ b v, I b = some v → NT v := by
  have one : ∀ o, H a = some o → NT o → (∀ H' : Hp, H' a = some o → SqL K H' a xs) → ∃ (I : Hp) (u : Option HO), Ex I H ∧ (∀ o, u = some o → I a = some o) ∧ Scr K (.scr a u) xs ∧ ∀ b v, I b = some v → NT v := fun o ho hn hq => by
    have at_ : ∀ b p, (if b = a then some o else none) = some p → b = a ∧ o = p := fun b p hb => by
      by_cases e : b = a
      · exact ⟨e, Option.some.inj ((if_pos e).symm.trans hb)⟩
      · cases (if_neg e).symm.trans hb
    exact ⟨fun b => if b = a then some o else none, some o, fun b p hb => by
      obtain ⟨e1, e2⟩ := at_ b p hb
      rw [e1, ho, e2], fun p hp => (if_pos rfl).trans hp, ⟨a, some o, rfl, fun H' hH => hq H' (hH o rfl)⟩, fun b v hb => (at_ b v hb).2 ▸ hn⟩
  rcases h with (h | ⟨ob, h⟩) | h
  · exact one _ h .lst fun H' h' => .inl (.inl h')
  · exact one _ h (fun _ z => by cases z) fun H' h' => .inl (.inr ⟨ob, h'⟩)
  · exact ⟨fun _ => none, none, (fun b p hb => by cases hb), (fun p hp => by cases hp), ⟨a, none, rfl, fun H' _ => .inr h⟩, fun b v hb => by cases hb⟩
theorem ok_law {f : Addr} {fd : FuncData} (W : Wd g) (F : Fun g.K "law" "law" s_law f fd) : FnOk g.P g.w g.K g.mg g.base CX0 43 f fd ["script"] (spLaw g.K) := by
  obtain ⟨oc, od, kV, doc, pm, an, cdv, ct, osl, rfl, lk, hcd⟩ := F.ex
  refine fn_of lk hcd c_law (fun vs H Q E h => ?_) fun A outer s H vs Q E hr h => ?_
  · obtain ⟨a, ns, rfl, _⟩ := h
    rfl
  · obtain ⟨a, ns, rfl, hS, hlen, tabs, q⟩ := h
    obtain ⟨I, u, ex, hu, hs, nt⟩ := scr_of hS
    obtain ⟨M', hb⟩ := law_run (g := g) W hs (by intro z; cases z) hlen
    have key : ∃ t, PSs (cxOf CX0 g.P g.w g.K g.mg g.base n_law "law" (defScope s_law) f cdv A outer s H E).nox (defBody s_law) t ∧ t { nx := fun _ H' => Q .non H', rt := Q } (L2.start n_law [.ref a]) H := by
      refine ⟨UB (C11 g) lb, ub ⟨rfl, rfl, rfl, rfl, rfl, rfl, rfl, rfl, hr, PassesOwn.never, takes0, fun _ _ => rfl, fun c q z => (by cases z), ⟨_, _, rfl, c_law.gen, c_law.co, rfl, rfl⟩⟩ _, ?_⟩
      refine hb I H [] (L2.start n_law [.ref a]) _ ⟨ex, ⟨rfl, List.nodup_nil, fun k a os h1 _ => by simp at h1, fun k a h1 => by simp at h1, ⟨tabs, nt⟩⟩, rfl, fun i p ov h1 h2 => ?_⟩ fun v I' H' adr' s' g' v' => ?_
      · match i, h1, h2 with
        | 0, h1, h2 =>
          cases h1
          cases h2
          exact ⟨rfl, hu⟩
        | i + 1, h1, h2 =>
          have e : p = .no := by
            have : (List.replicate 1 O.no)[i]? = some p := h1
            exact List.eq_of_mem_replicate (List.mem_of_getElem? this)
          subst e
          have e2 : ov = none := by
            have : (List.replicate 1 (none : Option V))[i]? = some ov := h2
            exact List.eq_of_mem_replicate (List.mem_of_getElem? this)
          subst e2
          rfl
      · cases (show Rep I' (.bl true) v from v')
        exact q H'
    obtain ⟨t, h1, h2⟩ := key
    exact ⟨t, h1.nox, h2⟩
end
end
end Ab
end
set_option maxHeartbeats 0
namespace Ab
open PySem PySem.Spec PyProof.Rows L2
theorem seer_of {K : PySem.W.Frag} {h base : Heap} {mg : Str → Option Value} {c P : Addr} (N : h.NoSeer) (KX : K.In h) (KB : K.In base) (sy : seenY K = true) (G : base.Ns mainGlobals mg) (T : LamX.TabB base mg c P) : base.NoSeer := by
  have same : ∀ a, (K.lookup a).isSome = true → ∀ m, h.Ns a m → base.Ns a m := fun a ha m ⟨u, es, ep, e, r⟩ => by
    obtain ⟨u', hu⟩ := Option.isSome_iff_exists.mp ha
    have e1 := KX a u' hu
    rw [e] at e1
    cases e1
    exact ⟨u, es, ep, KB a u hu, r⟩
  obtain ⟨s1, s4⟩ := Bool.and_eq_true_iff.mp sy
  obtain ⟨s2, s3⟩ := Bool.and_eq_true_iff.mp s4
  exact ⟨let ⟨m, a, b⟩ := N.statics; ⟨m, same _ s1 m a, b⟩, let ⟨m, a, b⟩ := N.mods; ⟨m, same _ s2 m a, b⟩, let ⟨m, a, b⟩ := N.imp; ⟨m, same _ s3 m a, b⟩, let ⟨bm, ob, b1, _, _, _, b3, b4, b5, _⟩ := T.bm; ⟨mg, bm, ob, G, b1, b3, b4, b5⟩⟩
theorem fun_of {K : PySem.W.Frag} {x q : Str} {st : Stmt} {f : Addr} {fd : FuncData} (F : FunD K x q (defArgs st) (defBody st) (defScope st) [] [] f fd) : Fun K x q st f fd := by
  obtain ⟨oc, od, dV, kV, doc, pm, an, cdv, ct, osl, h1, h2, h3, h4, h5⟩ := F.ex
  rcases h4 with ⟨_, e⟩ | ⟨e, _⟩
  · subst e
    exact ⟨⟨oc, od, kV, doc, pm, an, cdv, ct, osl, h1, h2, h3⟩, F.kp⟩
  · exact absurd rfl e
@[reducible] def wkOf (K : PySem.W.Frag) : WkCtx := ⟨He.ga K "Work", (He.cT K hcl).1, (He.cT K hcl).2⟩
theorem hwd {P : Program} {w : World} {K : PySem.W.Frag} {h base : Heap} {mg : Str → Option Value} (X : K.In h) (G : h.Ns mainGlobals mg) (c : He.SaysD hfa hfn K) (c2 : He.SaysT hfa hfn hts w K) (c3 : hex K = true) (c4 : hexc K = true) (ci : hini K = hival) (hf : P.main.file = hfile) (ht2 : (P.main.scope.names.lookup ("super" : Str)).isSome = false) (T : LamX.TabB base mg (He.cT K hcl).1 (He.cT K hcl).2) (N : base.NoSeer) (ht : P.given.tree = none) : @Wd (wkOf K) ⟨P, w, K, mg, base⟩ := by
  letI := wkOf K
  exact {
  x_Undefined := exc_all (P := P) (by rw [hf]; exact c4) ci ht2 (He.glo_ok X G (c.fact 99 (f := .glo "Undefined") rfl)) (fun y hy => by
    simp only [hno, List.mem_cons, List.not_mem_nil, or_false] at hy
    rcases hy with rfl | rfl | rfl | rfl | rfl | rfl | rfl | rfl | rfl
    · exact He.glo_ok X G (c.fact 92 (f := .glo "InvalidMatrix") rfl)
    · exact He.glo_ok X G (c.fact 93 (f := .glo "InvalidVector") rfl)
    · exact He.glo_ok X G (c.fact 94 (f := .glo "InvalidNumber") rfl)
    · exact He.glo_ok X G (c.fact 95 (f := .glo "InvalidQuestion") rfl)
    · exact He.glo_ok X G (c.fact 96 (f := .glo "InvalidLine") rfl)
    · exact He.glo_ok X G (c.fact 97 (f := .glo "InvalidText") rfl)
    · exact He.glo_ok X G (c.fact 98 (f := .glo "Unfit") rfl)
    · exact He.glo_ok X G (c.fact 100 (f := .glo "TooMany") rfl)
    · exact He.glo_ok X G (c.fact 101 (f := .glo "NothingDone") rfl)) (He.glo_ok X G (c.fact 91 (f := .glo "CoreError") rfl))
  f_super := He.free_ok X G (c.fact 88 (f := .free "super") rfl)
  f_repr := He.free_ok X G (c.fact 89 (f := .free "repr") rfl)
  f_ValueError := He.free_ok X G (c.fact 90 (f := .free "ValueError") rfl)
  b := ⟨He.free_ok X G (c.fact 58 (f := .free "len") rfl), He.free_ok X G (c.fact 59 (f := .free "sum") rfl), He.free_ok X G (c.fact 60 (f := .free "all") rfl), He.free_ok X G (c.fact 61 (f := .free "any") rfl), He.free_ok X G (c.fact 62 (f := .free "abs") rfl), He.free_ok X G (c.fact 63 (f := .free "min") rfl), He.free_ok X G (c.fact 64 (f := .free "max") rfl), He.free_ok X G (c.fact 65 (f := .free "int") rfl), He.free_ok X G (c.fact 66 (f := .free "bool") rfl), He.free_ok X G (c.fact 67 (f := .free "str") rfl), He.free_ok X G (c.fact 68 (f := .free "tuple") rfl), He.free_ok X G (c.fact 69 (f := .free "list") rfl), He.free_ok X G (c.fact 70 (f := .free "range") rfl), He.free_ok X G (c.fact 71 (f := .free "zip") rfl), He.free_ok X G (c.fact 72 (f := .free "enumerate") rfl), He.free_ok X G (c.fact 73 (f := .free "isinstance") rfl), He.free_ok X G (c.fact 74 (f := .free "reversed") rfl), He.free_ok X G (c.fact 75 (f := .free "sorted") rfl)⟩
  t_is_number := ⟨let ⟨fd, F⟩ := c.def_ 0 (d := d_is_number) rfl; ⟨_, fd, fun_of F, He.glo_ok X G (c.fact 0 (f := .glo "is_number") rfl)⟩⟩
  t_is_from_to := ⟨let ⟨fd, F⟩ := c.def_ 1 (d := d_is_from_to) rfl; ⟨_, fd, fun_of F, He.glo_ok X G (c.fact 1 (f := .glo "is_from_to") rfl)⟩⟩
  t_is_row := ⟨let ⟨fd, F⟩ := c.def_ 2 (d := d_is_row) rfl; ⟨_, fd, fun_of F, He.glo_ok X G (c.fact 2 (f := .glo "is_row") rfl)⟩⟩
  t_is_vector := ⟨let ⟨fd, F⟩ := c.def_ 3 (d := d_is_vector) rfl; ⟨_, fd, fun_of F, He.glo_ok X G (c.fact 3 (f := .glo "is_vector") rfl)⟩⟩
  t_is_matrix := ⟨let ⟨fd, F⟩ := c.def_ 4 (d := d_is_matrix) rfl; ⟨_, fd, fun_of F, He.glo_ok X G (c.fact 4 (f := .glo "is_matrix") rfl)⟩⟩
  t_checked_vector := ⟨let ⟨fd, F⟩ := c.def_ 5 (d := d_checked_vector) rfl; ⟨_, fd, fun_of F, He.glo_ok X G (c.fact 5 (f := .glo "checked_vector") rfl)⟩⟩
  t_checked_matrix := ⟨let ⟨fd, F⟩ := c.def_ 6 (d := d_checked_matrix) rfl; ⟨_, fd, fun_of F, He.glo_ok X G (c.fact 6 (f := .glo "checked_matrix") rfl)⟩⟩
  t_check_sizes := ⟨let ⟨fd, F⟩ := c.def_ 7 (d := d_check_sizes) rfl; ⟨_, fd, fun_of F, He.glo_ok X G (c.fact 7 (f := .glo "check_sizes") rfl)⟩⟩
  t_checked_pair := ⟨let ⟨fd, F⟩ := c.def_ 8 (d := d_checked_pair) rfl; ⟨_, fd, fun_of F, He.glo_ok X G (c.fact 8 (f := .glo "checked_pair") rfl)⟩⟩
  t_checked_with := ⟨let ⟨fd, F⟩ := c.def_ 9 (d := d_checked_with) rfl; ⟨_, fd, fun_of F, He.glo_ok X G (c.fact 9 (f := .glo "checked_with") rfl)⟩⟩
  t_flipped := ⟨let ⟨fd, F⟩ := c.def_ 10 (d := d_flipped) rfl; ⟨_, fd, fun_of F, He.glo_ok X G (c.fact 10 (f := .glo "flipped") rfl)⟩⟩
  t_unit := ⟨let ⟨fd, F⟩ := c.def_ 11 (d := d_unit) rfl; ⟨_, fd, fun_of F, He.glo_ok X G (c.fact 11 (f := .glo "unit") rfl)⟩⟩
  t_is_zero := ⟨let ⟨fd, F⟩ := c.def_ 12 (d := d_is_zero) rfl; ⟨_, fd, fun_of F, He.glo_ok X G (c.fact 12 (f := .glo "is_zero") rfl)⟩⟩
  t_less_multiple := ⟨let ⟨fd, F⟩ := c.def_ 13 (d := d_less_multiple) rfl; ⟨_, fd, fun_of F, He.glo_ok X G (c.fact 13 (f := .glo "less_multiple") rfl)⟩⟩
  t_lead := ⟨let ⟨fd, F⟩ := c.def_ 14 (d := d_lead) rfl; ⟨_, fd, fun_of F, He.glo_ok X G (c.fact 14 (f := .glo "lead") rfl)⟩⟩
  l_clear_column := by
    obtain ⟨fd, F⟩ := c.def_ 15 (d := d_clear_column) rfl
    obtain ⟨oc, od, dV, kV, doc, pm, an, cdv, ct, osl, e, lk, hcd, h4, h5⟩ := F.ex
    obtain ⟨cc, rfl⟩ := He.codeIn_ref hcd
    subst e
    have ec : (He.cT K hcl).1 = cc := He.codeOf_eq (p := hcl) lk rfl
    rcases h4 with ⟨_, z⟩ | ⟨z, _⟩
    · subst z
      subst ec
      exact ⟨⟨_, oc, od, an, kV, doc, pm, ct, osl, lk, hcd, He.glo_ok X G (c.fact 15 (f := .glo "clear_column") rfl), F.kp⟩, T⟩
    · exact absurd rfl z
  t_hermite_ways := ⟨let ⟨fd, F⟩ := c.def_ 16 (d := d_hermite_ways) rfl; ⟨_, fd, fun_of F, He.glo_ok X G (c.fact 16 (f := .glo "hermite_ways") rfl)⟩⟩
  t_form_of := ⟨let ⟨fd, F⟩ := c.def_ 17 (d := d_form_of) rfl; ⟨_, fd, fun_of F, He.glo_ok X G (c.fact 17 (f := .glo "form_of") rfl)⟩⟩
  t_basis_of := ⟨let ⟨fd, F⟩ := c.def_ 18 (d := d_basis_of) rfl; ⟨_, fd, fun_of F, He.glo_ok X G (c.fact 18 (f := .glo "basis_of") rfl)⟩⟩
  t_pivots_of := ⟨let ⟨fd, F⟩ := c.def_ 19 (d := d_pivots_of) rfl; ⟨_, fd, fun_of F, He.glo_ok X G (c.fact 19 (f := .glo "pivots_of") rfl)⟩⟩
  t_basis := ⟨let ⟨fd, F⟩ := c.def_ 20 (d := d_basis) rfl; ⟨_, fd, fun_of F, He.glo_ok X G (c.fact 20 (f := .glo "basis") rfl)⟩⟩
  t_pivots := ⟨let ⟨fd, F⟩ := c.def_ 21 (d := d_pivots) rfl; ⟨_, fd, fun_of F, He.glo_ok X G (c.fact 21 (f := .glo "pivots") rfl)⟩⟩
  t_reduced_by := ⟨let ⟨fd, F⟩ := c.def_ 22 (d := d_reduced_by) rfl; ⟨_, fd, fun_of F, He.glo_ok X G (c.fact 22 (f := .glo "reduced_by") rfl)⟩⟩
  t_has := ⟨let ⟨fd, F⟩ := c.def_ 23 (d := d_has) rfl; ⟨_, fd, fun_of F, He.glo_ok X G (c.fact 23 (f := .glo "has") rfl)⟩⟩
  t_has_all := ⟨let ⟨fd, F⟩ := c.def_ 24 (d := d_has_all) rfl; ⟨_, fd, fun_of F, He.glo_ok X G (c.fact 24 (f := .glo "has_all") rfl)⟩⟩
  t_is_member := ⟨let ⟨fd, F⟩ := c.def_ 25 (d := d_is_member) rfl; ⟨_, fd, fun_of F, He.glo_ok X G (c.fact 25 (f := .glo "is_member") rfl)⟩⟩
  t_is_within := ⟨let ⟨fd, F⟩ := c.def_ 26 (d := d_is_within) rfl; ⟨_, fd, fun_of F, He.glo_ok X G (c.fact 26 (f := .glo "is_within") rfl)⟩⟩
  t_same_lattice := ⟨let ⟨fd, F⟩ := c.def_ 27 (d := d_same_lattice) rfl; ⟨_, fd, fun_of F, He.glo_ok X G (c.fact 27 (f := .glo "same_lattice") rfl)⟩⟩
  t_remainder := ⟨let ⟨fd, F⟩ := c.def_ 28 (d := d_remainder) rfl; ⟨_, fd, fun_of F, He.glo_ok X G (c.fact 28 (f := .glo "remainder") rfl)⟩⟩
  t_in_basis := ⟨let ⟨fd, F⟩ := c.def_ 29 (d := d_in_basis) rfl; ⟨_, fd, fun_of F, He.glo_ok X G (c.fact 29 (f := .glo "in_basis") rfl)⟩⟩
  t_coordinates := ⟨let ⟨fd, F⟩ := c.def_ 30 (d := d_coordinates) rfl; ⟨_, fd, fun_of F, He.glo_ok X G (c.fact 30 (f := .glo "coordinates") rfl)⟩⟩
  t_law_start := ⟨let ⟨fd, F⟩ := c.def_ 31 (d := d_law_start) rfl; ⟨_, fd, fun_of F, He.glo_ok X G (c.fact 31 (f := .glo "_law_start") rfl)⟩⟩
  t_law_draw := ⟨let ⟨fd, F⟩ := c.def_ 32 (d := d_law_draw) rfl; ⟨_, fd, fun_of F, He.glo_ok X G (c.fact 32 (f := .glo "_law_draw") rfl)⟩⟩
  t_law_span := ⟨let ⟨fd, F⟩ := c.def_ 33 (d := d_law_span) rfl; ⟨_, fd, fun_of F, He.glo_ok X G (c.fact 33 (f := .glo "_law_span") rfl)⟩⟩
  t_law_number := ⟨let ⟨fd, F⟩ := c.def_ 34 (d := d_law_number) rfl; ⟨_, fd, fun_of F, He.glo_ok X G (c.fact 34 (f := .glo "_law_number") rfl)⟩⟩
  t_law_same := ⟨let ⟨fd, F⟩ := c.def_ 35 (d := d_law_same) rfl; ⟨_, fd, fun_of F, He.glo_ok X G (c.fact 35 (f := .glo "_law_same") rfl)⟩⟩
  t_law_frozen := ⟨let ⟨fd, F⟩ := c.def_ 36 (d := d_law_frozen) rfl; ⟨_, fd, fun_of F, He.glo_ok X G (c.fact 36 (f := .glo "_law_frozen") rfl)⟩⟩
  t_law_given := ⟨let ⟨fd, F⟩ := c.def_ 37 (d := d_law_given) rfl; ⟨_, fd, fun_of F, He.glo_ok X G (c.fact 37 (f := .glo "_law_given") rfl)⟩⟩
  t_law_kept := ⟨let ⟨fd, F⟩ := c.def_ 38 (d := d_law_kept) rfl; ⟨_, fd, fun_of F, He.glo_ok X G (c.fact 38 (f := .glo "_law_kept") rfl)⟩⟩
  t_law_refusal := ⟨let ⟨fd, F⟩ := c.def_ 39 (d := d_law_refusal) rfl; ⟨_, fd, fun_of F, He.glo_ok X G (c.fact 39 (f := .glo "_law_refusal") rfl)⟩⟩
  t_law_dot := ⟨let ⟨fd, F⟩ := c.def_ 40 (d := d_law_dot) rfl; ⟨_, fd, fun_of F, He.glo_ok X G (c.fact 40 (f := .glo "_law_dot") rfl)⟩⟩
  t_law_led := ⟨let ⟨fd, F⟩ := c.def_ 41 (d := d_law_led) rfl; ⟨_, fd, fun_of F, He.glo_ok X G (c.fact 41 (f := .glo "_law_led") rfl)⟩⟩
  t_law_first := ⟨let ⟨fd, F⟩ := c.def_ 42 (d := d_law_first) rfl; ⟨_, fd, fun_of F, He.glo_ok X G (c.fact 42 (f := .glo "_law_first") rfl)⟩⟩
  t_law_tidied := ⟨let ⟨fd, F⟩ := c.def_ 43 (d := d_law_tidied) rfl; ⟨_, fd, fun_of F, He.glo_ok X G (c.fact 43 (f := .glo "_law_tidied") rfl)⟩⟩
  t_law_left := ⟨let ⟨fd, F⟩ := c.def_ 44 (d := d_law_left) rfl; ⟨_, fd, fun_of F, He.glo_ok X G (c.fact 44 (f := .glo "_law_left") rfl)⟩⟩
  t_law_identity := ⟨let ⟨fd, F⟩ := c.def_ 45 (d := d_law_identity) rfl; ⟨_, fd, fun_of F, He.glo_ok X G (c.fact 45 (f := .glo "_law_identity") rfl)⟩⟩
  t_law_turned := ⟨let ⟨fd, F⟩ := c.def_ 46 (d := d_law_turned) rfl; ⟨_, fd, fun_of F, He.glo_ok X G (c.fact 46 (f := .glo "_law_turned") rfl)⟩⟩
  t_law_told_coordinates := ⟨let ⟨fd, F⟩ := c.def_ 47 (d := d_law_told_coordinates) rfl; ⟨_, fd, fun_of F, He.glo_ok X G (c.fact 47 (f := .glo "_law_told_coordinates") rfl)⟩⟩
  t_law_box := ⟨let ⟨fd, F⟩ := c.def_ 48 (d := d_law_box) rfl; ⟨_, fd, fun_of F, He.glo_ok X G (c.fact 48 (f := .glo "_law_box") rfl)⟩⟩
  t_law_shape := ⟨let ⟨fd, F⟩ := c.def_ 49 (d := d_law_shape) rfl; ⟨_, fd, fun_of F, He.glo_ok X G (c.fact 49 (f := .glo "_law_shape") rfl)⟩⟩
  t_law_fits := ⟨let ⟨fd, F⟩ := c.def_ 50 (d := d_law_fits) rfl; ⟨_, fd, fun_of F, He.glo_ok X G (c.fact 50 (f := .glo "_law_fits") rfl)⟩⟩
  t_law_passed := ⟨let ⟨fd, F⟩ := c.def_ 51 (d := d_law_passed) rfl; ⟨_, fd, fun_of F, He.glo_ok X G (c.fact 51 (f := .glo "_law_passed") rfl)⟩⟩
  t_law_small := ⟨let ⟨fd, F⟩ := c.def_ 52 (d := d_law_small) rfl; ⟨_, fd, fun_of F, He.glo_ok X G (c.fact 52 (f := .glo "_law_small") rfl)⟩⟩
  t_law_basis := ⟨let ⟨fd, F⟩ := c.def_ 53 (d := d_law_basis) rfl; ⟨_, fd, fun_of F, He.glo_ok X G (c.fact 53 (f := .glo "_law_basis") rfl)⟩⟩
  t_law_vector := ⟨let ⟨fd, F⟩ := c.def_ 54 (d := d_law_vector) rfl; ⟨_, fd, fun_of F, He.glo_ok X G (c.fact 54 (f := .glo "_law_vector") rfl)⟩⟩
  t_law_asked := ⟨let ⟨fd, F⟩ := c.def_ 55 (d := d_law_asked) rfl; ⟨_, fd, fun_of F, He.glo_ok X G (c.fact 55 (f := .glo "_law_asked") rfl)⟩⟩
  t_law_large := ⟨let ⟨fd, F⟩ := c.def_ 56 (d := d_law_large) rfl; ⟨_, fd, fun_of F, He.glo_ok X G (c.fact 56 (f := .glo "_law_large") rfl)⟩⟩
  t_law := ⟨let ⟨fd, F⟩ := c.def_ 57 (d := d_law) rfl; ⟨_, fd, fun_of F, He.glo_ok X G (c.fact 57 (f := .glo "law") rfl)⟩⟩
  cls_Work := He.cls_ok (c.fact 78 (f := .cls "Work") rfl)
  no_rows := He.noat_ok (c.fact 79 (f := .noat "Work" "rows") rfl)
  no_there := He.noat_ok (c.fact 80 (f := .noat "Work" "there") rfl)
  no_back := He.noat_ok (c.fact 81 (f := .noat "Work" "back") rfl)
  mg_Work := He.glo_ok X G (c.fact 87 (f := .glo "Work") rfl)
  in_Work := let ⟨fd, F⟩ := c.def_ 58 (d := d_Work_init) rfl; ⟨_, fd, fun_of F, He.mkr_ok (c.fact 86 (f := .mkr "Work") rfl)⟩
  m_swap := ⟨let ⟨fd, F⟩ := c.def_ 59 (d := d_Work_swap) rfl; ⟨_, fd, fun_of F, He.meth_ok (c.fact 82 (f := .meth "Work" "swap") rfl)⟩⟩
  m_turn := ⟨let ⟨fd, F⟩ := c.def_ 60 (d := d_Work_turn) rfl; ⟨_, fd, fun_of F, He.meth_ok (c.fact 83 (f := .meth "Work" "turn") rfl)⟩⟩
  m_take := ⟨let ⟨fd, F⟩ := c.def_ 61 (d := d_Work_take) rfl; ⟨_, fd, fun_of F, He.meth_ok (c.fact 84 (f := .meth "Work" "take") rfl)⟩⟩
  m_ways := ⟨let ⟨fd, F⟩ := c.def_ 62 (d := d_Work_ways) rfl; ⟨_, fd, fun_of F, He.meth_ok (c.fact 85 (f := .meth "Work" "ways") rfl)⟩⟩
  g_MOST_SIZE := He.int_ok X G (c.fact 76 (f := .int "MOST_SIZE" 8) rfl)
  g_MOST_NUMBER := He.int_ok X G (c.fact 77 (f := .int "MOST_NUMBER" 1000000) rfl)
  seer := N
  tree := ht }
theorem hfacts {P : Program} {w : World} {K : PySem.W.Frag} {h : Heap} {mg : Str → Option Value} {f : Addr} (X : K.In h) (G : h.Ns mainGlobals mg) (N : h.NoSeer) (ht : P.given.tree = none) (hf : P.main.file = hfile) (ht2 : (P.main.scope.names.lookup ("super" : Str)).isSome = false) (hfa' : mg ("law" : Str) = some (.ref f)) (c : TellsY w h K) (ci : hini K = hival) :
    ∃ fd : FuncData, (∀ (s : Shared) (v : Value), BindsTo s fd ⟨[v], []⟩ [("script", v)]) ∧ ∀ base : Heap, K.In base → base.Ns mainGlobals mg → (∀ p ∈ [He.cT K hcl], LamX.TabB base mg p.1 p.2) → FnOk P w K mg base CX0 43 f fd ["script"] (@spLaw (wkOf K) K) := by
  have cd := c.t.d
  obtain ⟨fd, F⟩ := cd.def_ 57 (d := d_law) rfl
  have e := hfa'.symm.trans (He.glo_ok X G (cd.fact 57 (f := .glo "law") rfl))
  cases e
  have b := FunD.bindsA (ps := ["script"]) F fun _ _ _ _ _ _ us hl => match us, hl with | [_], _ => rfl
  exact ⟨fd, fun s v => b s [v] rfl, fun base KB GB TB => @ok_law (wkOf K) ⟨P, w, K, mg, base⟩ _ _ (hwd X G cd c.t (Bool.and_eq_true_iff.mp (Bool.and_eq_true_iff.mp c.more).2).1 (Bool.and_eq_true_iff.mp (Bool.and_eq_true_iff.mp c.more).2).2 ci hf ht2 (TB _ (List.mem_singleton.mpr rfl)) (seer_of N X KB (Bool.and_eq_true_iff.mp c.more).1 GB (TB _ (List.mem_singleton.mpr rfl))) ht) (fun_of F)⟩
end Ab
open PySem PySem.W PySem.Calls PyProof.Rows
theorem PySem.Challenge.cw_multipliedout_k30_members_and_remainders_holds : PySem.Challenge.rw_multipliedout_k30_members_and_remainders.Holds := by
  w_on; o_law
  refine HandSHeadRun.head_any (r := OpenLaw.row PySem.Challenge.rw_multipliedout_k30_members_and_remainders) (q := view (OpenLaw.row PySem.Challenge.rw_multipliedout_k30_members_and_remainders).prog [78]) (H := Ab.hhk) (ob := Ab.hob) (M := 20000) (loose := Ab.hloose) (d := HandSHeadRun.topDef (OpenLaw.row PySem.Challenge.rw_multipliedout_k30_members_and_remainders).prog 78) (kwd := []) Ab.hob_eq
    (by kernel_rfl) (fun s => by kernel_rfl) Ab.hrun (by kernel_rfl) (by kernel_rfl) (by kernel_rfl) (by rfl) (by first | assumption | decide +kernel) (by decide +kernel) ⟨rfl, rfl, rfl, rfl, rfl, by decide +kernel⟩ ?hw ?hc
  case hw => w_witness2
  case hc =>
    refine Att.attach_callB (l := PySem.Challenge.rw_multipliedout_k30_members_and_remainders) (n := 63) rfl (by kernel_rfl) fun w s₀ s₁ mg mb fa u pm cd doc a vs ns G Y hu hd hcd hmg0 hobj hints hlen hbits hg => ?_
    obtain ⟨K, KX, c, ci⟩ := Y
    have hmg : mg ("law" : PySem.Str) = some (.ref fa) := by
      have e : (HandSHeadRun.topDef (OpenLaw.row PySem.Challenge.rw_multipliedout_k30_members_and_remainders).prog 78).name = ("law" : PySem.Str) := by kernel_rfl
      rw [← e]
      exact hmg0
    obtain ⟨fd, hb, hF⟩ := Ab.hfacts (P := (PySem.Challenge.rw_multipliedout_k30_members_and_remainders).prog) (w := w) KX G.T.g (G.T.seer (by kernel_rfl)) rfl rfl (by kernel_rfl) hmg c ci
    exact LamX.law_callTs (k := 43) (cs := [He.cT K Ab.hcl]) (sp := @Ab.spLaw (Ab.wkOf K) K) KX G.T.g G.T.b G.T.builtins G.T.nolimit hg
      (fun p hp => by
        obtain rfl := List.mem_singleton.mp hp
        exact c.empty _ (List.mem_singleton.mpr rfl))
      (fun p hp => by
        obtain rfl := List.mem_singleton.mp hp
        exact c.out _ (List.mem_singleton.mpr rfl))
      (fun p hp => by
        obtain rfl := List.mem_singleton.mp hp
        exact codeHd_of_K KX (c.hd _ (List.mem_singleton.mpr rfl)))
      G.T.bmain hobj hints (Nat.le_trans hlen (by decide)) ⟨rfl, by decide, by decide⟩ hF hb
      (fun H hH hS => ⟨a, ns, rfl, hS, hlen, fun p hp => by
        obtain rfl := List.mem_singleton.mp hp
        exact LamX.TabS.nil (hH _ (List.mem_singleton.mpr rfl)), fun _ => rfl⟩)
      fun _ _ _ z => z
