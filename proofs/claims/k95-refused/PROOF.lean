import PyProof.Rows.All
import Wide.All
import OpenK.AllK
import Wide.FinOn
import HandS.ForMost
import HandS.WordsExc
import HandS.Lambda
import HandS.ExcCtx
import HandS.HotCalls
import HandS.ExcIs
import HandS.Flow
import HandS.Wide
import HandS.HeadHook1
import HandS.Defaults
import KE.GoesRaise
import HandS.IsInst
import HandS.StrMore
import HandS.SortInts
import HandS.TupAny
import HandS.TupMul
import HandS.Deep
import HandS.HeadHook2
import HandS.HeadHook3
import HandS.HeadHook4
import HandS.HeadWalk
import HandS.HeadEnd
import HandS.Head0
import HandS.Head1
import HandS.Head2
import PyProof.EnumMake
import PyProof.Draws
import HandS.Small
import HandS.TryOnly
import HandS.RaiseMore
import HandS.ReplaceLit
import HandS.Codes
import PyProof.StrLawsFrom
import HandS.Set
import HandS.SetFor
import HandS.Strs
import HandS.More
import PyProof.Rows.SortShellAny
import HandS.Iter
import HandS.Style
import HandS.Dict
import KE.DataMinMax
import PyProof.ListStr
import PySem.Challenge.RW_lettershelf_k95_watches_refused
set_option Elab.async false
set_option linter.all false
set_option maxRecDepth 100000
set_option maxHeartbeats 4000000
/-! Mir, part A: data, what represents it, the ghost part of the heap, results, judgements. -/
namespace Mir
open PySem PySem.Spec PyProof.Rows L2

abbrev St := L2.St
/-- Python data; scr: the script; obj: an object of the store, by its number; exc: an exception that is held -/
inductive D where
  | non
  | bl (b : Bool)
  | int (i : Int)
  | str (x : Str)
  | tup (xs : List D)
  | lst (xs : List D)
  | dct (kvs : List (Key × D))
  | scr (ns : List Int)
  | obj (n : Nat)
  | exc (a : Addr)
/-- an object of the store -/
inductive Ob where
  | lst (xs : List D)
  | dct (kvs : List (Key × D))
  | ins (c : Str) (fs : List (Str × D))
  /-- a dict while it is walked -/
  | lck (kvs : List (Key × D))
abbrev Sto := List Ob

/-- the ghost: what is frozen for good; where the store's objects stand -/
structure Gh where
  G : Hp
  r : Nat → Option Addr

mutual
inductive Rep (K : PySem.W.Frag) (g : Gh) : V → D → Prop
  | non : Rep K g .non .non
  | bl (b : Bool) : Rep K g (.bl b) (.bl b)
  | int (i : Int) : Rep K g (.int i) (.int i)
  | str (x : Str) : Rep K g (.str x) (.str x)
  | tup {a : Addr} {xs : List V} {ds : List D} : SqT K g.G a xs → Reps K g xs ds → Rep K g (.ref a) (.tup ds)
  | lst {a : Addr} {xs : List V} {ds : List D} : g.G a = some (.lst xs) → Reps K g xs ds → Rep K g (.ref a) (.lst ds)
  | dct {a : Addr} {ks : List Key} {xs : List V} {ds : List D} : g.G a = some (.dK (ks.zip xs)) → ks.length = xs.length → Reps K g xs ds → Rep K g (.ref a) (.dct (ks.zip ds))
  | scr {a : Addr} {ns : List Int} : SqL K g.G a (ns.map V.int) → Rep K g (.ref a) (.scr ns)
  | obj {a : Addr} {n : Nat} : g.r n = some a → Rep K g (.ref a) (.obj n)
  | exc {a : Addr} : Rep K g (.ref a) (.exc a)
inductive Reps (K : PySem.W.Frag) (g : Gh) : List V → List D → Prop
  | nil : Reps K g [] []
  | cons {v : V} {vs : List V} {d : D} {ds : List D} : Rep K g v d → Reps K g vs ds → Reps K g (v :: vs) (d :: ds)
end

/-- the ghost grows -/
structure Le (g g' : Gh) : Prop where
  G : ∀ a o, g.G a = some o → g'.G a = some o
  r : ∀ n a, g.r n = some a → g'.r n = some a
theorem Le.refl (g : Gh) : Le g g := ⟨fun _ _ h => h, fun _ _ h => h⟩
theorem Le.trans {g g1 g2 : Gh} (a : Le g g1) (b : Le g1 g2) : Le g g2 := ⟨fun x o h => b.G x o (a.G x o h), fun n x h => b.r n x (a.r n x h)⟩

theorem rd_mono {H H' : Hp} {a : Addr} {u : HO} (e : ∀ a o, H a = some o → H' a = some o) (h : Rd H a u) : Rd H' a u := by
  rcases h with h | ⟨o, h⟩
  · exact .inl (e _ _ h)
  · exact .inr ⟨o, e _ _ h⟩
theorem sqT_mono {K : PySem.W.Frag} {H H' : Hp} {a : Addr} {xs : List V} (e : ∀ a o, H a = some o → H' a = some o) (h : SqT K H a xs) : SqT K H' a xs := by
  rcases h with h | h
  · exact .inl (rd_mono e h)
  · exact .inr h
theorem sqL_mono {K : PySem.W.Frag} {H H' : Hp} {a : Addr} {xs : List V} (e : ∀ a o, H a = some o → H' a = some o) (h : SqL K H a xs) : SqL K H' a xs := by
  rcases h with h | h
  · exact .inl (rd_mono e h)
  · exact .inr h

section
variable {K : PySem.W.Frag} {g g' : Gh}
mutual
theorem Rep.mono (e : Le g g') : ∀ {v : V} {d : D}, Rep K g v d → Rep K g' v d
  | _, _, .non => .non
  | _, _, .bl b => .bl b
  | _, _, .int i => .int i
  | _, _, .str x => .str x
  | _, _, .tup h r => .tup (sqT_mono e.G h) (Reps.mono e r)
  | _, _, .lst h r => .lst (e.G _ _ h) (Reps.mono e r)
  | _, _, .dct h l r => .dct (e.G _ _ h) l (Reps.mono e r)
  | _, _, .scr h => .scr (sqL_mono e.G h)
  | _, _, .obj h => .obj (e.r _ _ h)
  | _, _, .exc => .exc
theorem Reps.mono (e : Le g g') : ∀ {vs : List V} {ds : List D}, Reps K g vs ds → Reps K g' vs ds
  | _, _, .nil => .nil
  | _, _, .cons h r => .cons (Rep.mono e h) (Reps.mono e r)
end
theorem Reps.length : ∀ {vs : List V} {ds : List D}, Reps K g vs ds → vs.length = ds.length
  | _, _, .nil => rfl
  | _, _, .cons _ r => congrArg (· + 1) (Reps.length r)
theorem Reps.get : ∀ {vs : List V} {ds : List D} {i : Nat} {d : D}, Reps K g vs ds → ds[i]? = some d → ∃ v, vs[i]? = some v ∧ Rep K g v d
  | _, _, _, _, .nil, e => by simp at e
  | _, _, 0, _, .cons h _, e => by simp at e; subst e; exact ⟨_, rfl, h⟩
  | _, _, i + 1, d, .cons _ r, e => by
    obtain ⟨v, h1, h2⟩ := Reps.get (i := i) (d := d) r (by simpa using e)
    exact ⟨v, by simpa using h1, h2⟩
theorem Reps.get' : ∀ {vs : List V} {ds : List D} {i : Nat} {v : V}, Reps K g vs ds → vs[i]? = some v → ∃ d, ds[i]? = some d ∧ Rep K g v d
  | _, _, _, _, .nil, e => by simp at e
  | _, _, 0, _, .cons h _, e => by simp at e; subst e; exact ⟨_, rfl, h⟩
  | _, _, i + 1, d, .cons _ r, e => by
    obtain ⟨v, h1, h2⟩ := Reps.get' (i := i) (v := d) r (by simpa using e)
    exact ⟨v, by simpa using h1, h2⟩
theorem Reps.append : ∀ {vs ws : List V} {ds es : List D}, Reps K g vs ds → Reps K g ws es → Reps K g (vs ++ ws) (ds ++ es)
  | _, _, _, _, .nil, s => s
  | _, _, _, _, .cons h r, s => .cons h (Reps.append r s)
theorem Reps.set {v : V} {d : D} (h : Rep K g v d) : ∀ {vs : List V} {ds : List D} (i : Nat), Reps K g vs ds → Reps K g (vs.set i v) (ds.set i d)
  | _, _, _, .nil => .nil
  | _, _, 0, .cons _ r => .cons h r
  | _, _, i + 1, .cons q r => .cons q (Reps.set h i r)
theorem Reps.take : ∀ {vs : List V} {ds : List D} (n : Nat), Reps K g vs ds → Reps K g (vs.take n) (ds.take n)
  | _, _, 0, _ => .nil
  | _, _, _ + 1, .nil => .nil
  | _, _, n + 1, .cons h r => .cons h (Reps.take n r)
theorem Reps.drop : ∀ {vs : List V} {ds : List D} (n : Nat), Reps K g vs ds → Reps K g (vs.drop n) (ds.drop n)
  | _, _, 0, r => r
  | _, _, _ + 1, .nil => .nil
  | _, _, n + 1, .cons _ r => Reps.drop n r
end

/-- what a list or dict of one's own stands for: it stands in H, neither frozen nor in the store -/
inductive Own (K : PySem.W.Frag) (g : Gh) (H : Hp) : V → D → Prop
  | lst {a : Addr} {xs : List V} {ds : List D} : g.G a = none → (∀ n, g.r n ≠ some a) → H a = some (.lst xs) → Reps K g xs ds → Own K g H (.ref a) (.lst ds)
  | dct {a : Addr} {ks : List Key} {xs : List V} {ds : List D} : g.G a = none → (∀ n, g.r n ≠ some a) → H a = some (.dK (ks.zip xs)) → ks.length = xs.length → Reps K g xs ds → Own K g H (.ref a) (.dct (ks.zip ds))

/-- pairs -/
inductive KR {κ : Type} (K : PySem.W.Frag) (g : Gh) : List (κ × V) → List (κ × D) → Prop
  | nil : KR K g [] []
  | cons {k : κ} {v : V} {d : D} {r : List (κ × V)} {r' : List (κ × D)} : Rep K g v d → KR K g r r' → KR K g ((k, v) :: r) ((k, d) :: r')
theorem KR.mono {κ : Type} {K : PySem.W.Frag} {g g' : Gh} (e : Le g g') : ∀ {r : List (κ × V)} {r' : List (κ × D)}, KR K g r r' → KR K g' r r'
  | _, _, .nil => .nil
  | _, _, .cons h q => .cons (h.mono e) (KR.mono e q)
/-- an object of the store stands at a -/
inductive ObOk (K : PySem.W.Frag) (g : Gh) (H : Hp) (a : Addr) : Ob → Prop
  | lst {xs : List V} {ds : List D} : H a = some (.lst xs) → Reps K g xs ds → ObOk K g H a (.lst ds)
  | dct {kvs : List (Key × V)} {kds : List (Key × D)} : H a = some (.dK kvs) → KR K g kvs kds → ObOk K g H a (.dct kds)
  | ins {c : Str} {dx : Addr} {fs : List (Str × V)} {fds : List (Str × D)} : H a = some (.ins (He.ga K c) dx fs) → KR K g fs fds → ObOk K g H a (.ins c fds)
  | lck {od : Obj} {kvs : List (Key × V)} {kds : List (Key × D)} : H a = some (.frz od (.dK kvs)) → g.G a = some (.frz od (.dK kvs)) → KR K g kvs kds → ObOk K g H a (.lck kds)

/-- a state of ours: T the code tables -/
structure WF (K : PySem.W.Frag) (T : List (Addr × Str)) (g : Gh) (H : Hp) (s : Sto) : Prop where
  sub : ∀ a o, g.G a = some o → H a = some o
  inj : ∀ n m a, g.r n = some a → g.r m = some a → n = m
  out : ∀ n a, g.r n = some a → ∀ o, g.G a = some o → ∃ od kvs, o = .frz od (.dK kvs)
  sto : ∀ n o, s[n]? = some o → ∃ a, g.r n = some a ∧ ObOk K g H a o
  nxt : ∀ n a, g.r n = some a → n < s.length
  tab : LamX.Tabs T H
  notab : ∀ a ps, g.G a ≠ some (.tbl ps)

/-- the step from a state to a later one: the store's objects and the tables may change, all else that stands stays -/
structure Ext (g : Gh) (H : Hp) (g' : Gh) (H' : Hp) : Prop where
  le : Le g g'
  keep : ∀ a o, H a = some o → (∀ n, g.r n ≠ some a) → (∀ ps, o ≠ .tbl ps) → H' a = some o
  newG : ∀ a, H a ≠ none → g'.G a = g.G a
  newR : ∀ n a, g'.r n = some a → g.r n = some a ∨ H a = none
  dom : ∀ a, H a ≠ none → H' a ≠ none
theorem Ext.refl (g : Gh) (H : Hp) : Ext g H g H := ⟨Le.refl g, fun _ _ h _ _ => h, fun _ _ => rfl, fun _ _ h => .inl h, fun _ h => h⟩
theorem Ext.trans {g g1 g2 : Gh} {H H1 H2 : Hp} (a : Ext g H g1 H1) (b : Ext g1 H1 g2 H2) : Ext g H g2 H2 where
  le := a.le.trans b.le
  keep := fun x o h n t => b.keep x o (a.keep x o h n t) (fun m q => by
    rcases a.newR m x q with z | z
    · exact n m z
    · rw [h] at z; cases z) t
  newG := fun x h => (b.newG x (a.dom x h)).trans (a.newG x h)
  newR := fun n x h => by
    rcases b.newR n x h with z | z
    · exact a.newR n x z
    · refine .inr ?_
      cases q : H x with
      | none => rfl
      | some o => exact absurd z (a.dom x (by rw [q]; simp))
  dom := fun x h => b.dom x (a.dom x h)
theorem Ext.fresh {g g' : Gh} {H H' : Hp} (e : Ext g H g' H') {p : Addr} (h : H' p = none) : H p = none := by
  cases q : H p with
  | none => rfl
  | some o => exact absurd h (e.dom p (by rw [q]; simp))

section
variable {K : PySem.W.Frag} {T : List (Addr × Str)} {g g' : Gh} {H H' : Hp} {s : Sto} {v : V} {d : D}
theorem Own.ext (e : Ext g H g' H') (h : Own K g H v d) : Own K g' H' v d := by
  cases h with
  | @lst a xs ds h1 h2 h3 h4 =>
    have ne : H a ≠ none := by rw [h3]; simp
    refine .lst ((e.newG a ne).trans h1) (fun n q => ?_) (e.keep a _ h3 h2 (fun ps => by simp)) (h4.mono e.le)
    rcases e.newR n a q with z | z
    · exact h2 n z
    · exact ne z
  | @dct a ks xs ds h1 h2 h3 l h4 =>
    have ne : H a ≠ none := by rw [h3]; simp
    refine .dct ((e.newG a ne).trans h1) (fun n q => ?_) (e.keep a _ h3 h2 (fun ps => by simp)) l (h4.mono e.le)
    rcases e.newR n a q with z | z
    · exact h2 n z
    · exact ne z

theorem ObOk.move {a : Addr} (e : Le g g') (k : H' a = H a) {o : Ob} (h : ObOk K g H a o) : ObOk K g' H' a o := by
  cases h with
  | lst h r => exact .lst (k.trans h) (r.mono e)
  | dct h r => exact .dct (k.trans h) (r.mono e)
  | ins h r => exact .ins (k.trans h) (r.mono e)
  | lck h hg r => exact .lck (k.trans h) (e.G _ _ hg) (r.mono e)
/-- what may stand for an object of the store -/
def Stb (u : HO) : Prop := (∃ xs, u = .lst xs) ∨ (∃ kvs, u = .dK kvs) ∨ (∃ c dx fs, u = .ins c dx fs) ∨ ∃ o kvs, u = .frz o (.dK kvs)
theorem Stb.ntbl {u : HO} (h : Stb u) (ps : Array Value) : u ≠ .tbl ps := by
  rcases h with ⟨_, rfl⟩ | ⟨_, rfl⟩ | ⟨_, _, _, rfl⟩ | ⟨_, _, rfl⟩ <;> simp
theorem Stb.ncode {u : HO} (h : Stb u) (c : Addr) (q : Str) : u ≠ LamX.CodeO c q := by
  unfold LamX.CodeO
  rcases h with ⟨_, rfl⟩ | ⟨_, rfl⟩ | ⟨_, _, _, rfl⟩ | ⟨_, _, rfl⟩ <;> simp
theorem ObOk.stb {a : Addr} {o : Ob} (h : ObOk K g H a o) : ∃ u, H a = some u ∧ Stb u := by
  cases h with
  | lst h r => exact ⟨_, h, .inl ⟨_, rfl⟩⟩
  | dct h r => exact ⟨_, h, .inr (.inl ⟨_, rfl⟩)⟩
  | ins h r => exact ⟨_, h, .inr (.inr (.inl ⟨_, _, _, rfl⟩))⟩
  | lck h _ r => exact ⟨_, h, .inr (.inr (.inr ⟨_, _, rfl⟩))⟩
theorem ObOk.there {a : Addr} {o : Ob} (h : ObOk K g H a o) : ∃ u, H a = some u ∧ (∀ ps, u ≠ .tbl ps) := by
  obtain ⟨u, h1, h2⟩ := h.stb
  exact ⟨u, h1, h2.ntbl⟩
/-- p frozen -/
def Gh.frz (g : Gh) (p : Addr) (o : HO) : Gh := { g with G := upd g.G p o }
theorem Gh.frz_le {p : Addr} {o : HO} (h : g.G p = none ∨ g.G p = some o) : Le g (g.frz p o) := ⟨fun a u e => by
  show upd g.G p o a = some u
  by_cases q : a = p
  · subst q
    rcases h with z | z
    · rw [z] at e; cases e
    · rw [z] at e; cases e; exact upd_same
  · rw [upd_ne q]; exact e, fun _ _ e => e⟩
theorem Gh.frz_at {p : Addr} {o : HO} : (g.frz p o).G p = some o := upd_same
theorem WF.rne (w : WF K T g H s) {n : Nat} {p : Addr} (h : H p = none) : g.r n ≠ some p := fun q => by
  have hn := w.nxt n p q
  obtain ⟨a, h1, h2⟩ := w.sto n s[n] (List.getElem?_eq_getElem hn)
  rw [q] at h1; cases h1
  obtain ⟨u, hu, _⟩ := h2.there
  rw [h] at hu; cases hu
theorem WF.gne (w : WF K T g H s) {p : Addr} (h : H p = none) : g.G p = none := by
  cases q : g.G p with
  | none => rfl
  | some o => rw [w.sub p o q] at h; cases h
theorem upd_keep {p : Addr} {o : HO} (h : H p = none) : ∀ b u, H b = some u → upd H p o b = some u := fun b u e => by
  rw [upd_ne (ne_of_none e h)]; exact e
/-- a new object, one's own -/
theorem Ext.new {p : Addr} {o : HO} (h : H p = none) : Ext g H g (upd H p o) := ⟨Le.refl g, fun a u e _ _ => upd_keep h a u e, fun _ _ => rfl, fun _ _ e => .inl e, fun a ha => by
  cases q : H a with
  | none => exact absurd q ha
  | some u => rw [upd_keep h a u q]; simp⟩
theorem WF.new (w : WF K T g H s) {p : Addr} {o : HO} (h : H p = none) : WF K T g (upd H p o) s where
  sub := fun a u e => upd_keep h a u (w.sub a u e)
  inj := w.inj
  out := w.out
  sto := fun n ob e => by
    obtain ⟨a, h1, h2⟩ := w.sto n ob e
    exact ⟨a, h1, h2.move (Le.refl g) (upd_ne fun q => by subst q; exact w.rne h h1)⟩
  nxt := w.nxt
  tab := w.tab.ext (upd_keep h)
  notab := w.notab
/-- what stands is frozen -/
theorem WF.freeze (w : WF K T g H s) {p : Addr} {o : HO} (h : H p = some o) (hr : ∀ n, g.r n ≠ some p) (ht : ∀ ps, o ≠ .tbl ps) : WF K T (g.frz p o) H s where
  sub := fun a u e => by
    have e : upd g.G p o a = some u := e
    by_cases q : a = p
    · subst q; rw [upd_same] at e; cases e; exact h
    · rw [upd_ne q] at e; exact w.sub a u e
  inj := w.inj
  out := fun n a e u hu => by
    have hu : upd g.G p o a = some u := hu
    rw [upd_ne (fun q => by subst q; exact hr n e)] at hu; exact w.out n a e u hu
  sto := fun n ob e => by
    obtain ⟨a, h1, h2⟩ := w.sto n ob e
    refine ⟨a, h1, h2.move (Gh.frz_le ?_) rfl⟩
    cases q : g.G p with
    | none => exact .inl rfl
    | some u => have := w.sub p u q; rw [h] at this; cases this; exact .inr rfl
  nxt := w.nxt
  tab := w.tab
  notab := fun a ps e => by
    have e : upd g.G p o a = some (.tbl ps) := e
    by_cases q : a = p
    · subst q; rw [upd_same] at e; cases e; exact ht ps rfl
    · rw [upd_ne q] at e; exact w.notab a ps e
theorem Ext.freeze (e : Ext g H g' H') {p : Addr} {o : HO} (h : H p = none) (hg : g'.G p = none ∨ g'.G p = some o) : Ext g H (g'.frz p o) H' where
  le := e.le.trans (Gh.frz_le hg)
  keep := e.keep
  newG := fun a ha => by
    show upd g'.G p o a = g.G a
    rw [upd_ne (fun q => by subst q; exact ha h)]; exact e.newG a ha
  newR := e.newR
  dom := e.dom
theorem WF.newF (w : WF K T g H s) {p : Addr} {o : HO} (h : H p = none) (ht : ∀ ps, o ≠ .tbl ps) : WF K T (g.frz p o) (upd H p o) s :=
  (w.new h).freeze upd_same (fun n => w.rne h) ht
theorem WF.extF (w : WF K T g H s) {p : Addr} {o : HO} (h : H p = none) : Ext g H (g.frz p o) (upd H p o) := (Ext.new h).freeze h (.inl (w.gne h))
/-- one's own is changed -/
theorem WF.mut (w : WF K T g H s) {p : Addr} {o o' : HO} (h : H p = some o) (hl : (∃ xs, o = .lst xs) ∨ (∃ kvs, o = .dK kvs)) (hg : g.G p = none) (hr : ∀ n, g.r n ≠ some p) : WF K T g (upd H p o') s where
  sub := fun a u e => by
    rw [upd_ne (fun q => by subst q; rw [hg] at e; cases e)]; exact w.sub a u e
  inj := w.inj
  out := w.out
  sto := fun n ob e => by
    obtain ⟨a, h1, h2⟩ := w.sto n ob e
    exact ⟨a, h1, h2.move (Le.refl g) (upd_ne fun q => by subst q; exact hr n h1)⟩
  nxt := w.nxt
  tab := fun q hq => by
    obtain ⟨ps, h1, h2, h3⟩ := w.tab q hq
    have n1 : q.1 ≠ p := fun z => by
      rw [z, h] at h1
      rcases hl with ⟨xs, rfl⟩ | ⟨kvs, rfl⟩ <;> cases h1
    refine ⟨ps, by rw [upd_ne n1]; exact h1, h2, fun pos cv hc => ?_⟩
    obtain ⟨c, e1, e2⟩ := h3 pos cv hc
    refine ⟨c, e1, ?_⟩
    rw [upd_ne fun z => ?_]
    · exact e2
    · rw [z, h] at e2
      rcases hl with ⟨xs, rfl⟩ | ⟨kvs, rfl⟩ <;> (unfold LamX.CodeO at e2; cases e2)
  notab := w.notab
/-- against the entry, too -/
theorem Ext.mut (e : Ext g H g' H') {p : Addr} {o' : HO} (h : H p = none) : Ext g H g' (upd H' p o') where
  le := e.le
  keep := fun a o ha n t => by
    rw [upd_ne (ne_of_none ha h)]; exact e.keep a o ha n t
  newG := e.newG
  newR := e.newR
  dom := fun a ha => by
    by_cases q : a = p
    · subst q; rw [upd_same]; simp
    · rw [upd_ne q]; exact e.dom a ha
end

/-! ### results -/
inductive R (α : Type) where
  | ok (a : α) (s : Sto)
  | exc (c : Str) (s : Sto)
  | no
abbrev M (α : Type) := Sto → R α
@[inline] def R.bind {α β : Type} (r : R α) (f : α → M β) : R β := match r with
  | .ok a s => f a s
  | .exc c s => .exc c s
  | .no => .no
def M.ret {α : Type} (a : α) : M α := fun s => .ok a s
def M.opt {α : Type} : Option α → M α
  | some a => fun s => .ok a s
  | none => fun _ => .no
abbrev Ev := List (Option D)
abbrev ED := Ev → M D
abbrev TD := Ev → M Bool
abbrev AD := Ev → M (List D)
inductive Fl where
  | nx (τ : Ev)
  | rt (d : D)
  | bk (τ : Ev)
  | ct (τ : Ev)
abbrev SD := Ev → M Fl

/-! ### judgements -/
structure Ctx where
  X : Cx
  T : List (Addr × Str)
  W : XK
  O : Nat → Bool
/-- kinds of values: o: a list or dict is new and one's own; z: frozen; b: to be read -/
inductive Kd where
  | o | z | b
def isCt : D → Bool
  | .lst _ => true
  | .dct _ => true
  | _ => false
def RK (k : Kd) (K : PySem.W.Frag) (g : Gh) (H0 H : Hp) (v : V) (d : D) : Prop := match k with
  | .z => Rep K g v d
  | .b => Rep K g v d ∨ Own K g H v d
  | .o => (isCt d = false ∧ Rep K g v d) ∨ (Own K g H v d ∧ ∃ p, v = .ref p ∧ H0 p = none)
/-- the slots -/
structure Sl (K : PySem.W.Frag) (g : Gh) (H : Hp) (O : Nat → Bool) (σ : St) (τ : Ev) : Prop where
  len : σ.length = τ.length
  at_ : ∀ i d, τ[i]? = some (some d) → ∃ v, σ[i]? = some (some v) ∧ (if O i = true then Own K g H v d else Rep K g v d)
  ne : ∀ i j p, O i = true → O j = true → i ≠ j → σ[i]? = some (some (.ref p)) → σ[j]? = some (some (.ref p)) → τ[i]? = some none ∨ τ[j]? = some none
theorem Sl.ext {K : PySem.W.Frag} {g g' : Gh} {H H' : Hp} {O : Nat → Bool} {σ : St} {τ : Ev} (e : Ext g H g' H') (h : Sl K g H O σ τ) : Sl K g' H' O σ τ :=
  ⟨h.len, fun i d hd => by
    obtain ⟨v, h1, h2⟩ := h.at_ i d hd
    refine ⟨v, h1, ?_⟩
    by_cases q : O i = true
    · rw [if_pos q] at h2 ⊢; exact h2.ext e
    · rw [if_neg q] at h2 ⊢; exact h2.mono e.le, h.ne⟩
structure Ok (c : Ctx) (g : Gh) (H : Hp) (s : Sto) (σ : St) (τ : Ev) : Prop where
  wf : WF c.X.K c.T g H s
  sl : Sl c.X.K g H c.O σ τ
abbrev clsV (K : PySem.W.Frag) (c : Str) : Value := .ref (He.ga K c)
/-- what is wanted behind a run -/
def Pg (c : Ctx) (g : Gh) (H : Hp) {β : Type} (C : β → Sto → Gh → Hp → Prop) : R β → Prop
  | .ok b s' => ∀ g' H', Ext g H g' H' → WF c.X.K c.T g' H' s' → C b s' g' H'
  | .exc cl s' => ∀ g' H', Ext g H g' H' → WF c.X.K c.T g' H' s' → c.W (clsV c.X.K cl) none H'
  | .no => False
theorem Pg.seq {c : Ctx} {g : Gh} {H : Hp} {α β : Type} {C : β → Sto → Gh → Hp → Prop} {C' : α → Sto → Gh → Hp → Prop} {r : R α} {f : α → M β} (h : Pg c g H C (r.bind f))
    (k : ∀ a s1 g1 H1, r = .ok a s1 → Ext g H g1 H1 → WF c.X.K c.T g1 H1 s1 → Pg c g1 H1 C (f a s1) → C' a s1 g1 H1) : Pg c g H C' r := by
  cases r with
  | ok a s1 =>
    intro g1 H1 e1 w1
    refine k a s1 g1 H1 rfl e1 w1 ?_
    have h : Pg c g H C (f a s1) := h
    cases q : f a s1 with
    | ok b s2 => rw [q] at h; exact fun g2 H2 e2 w2 => h g2 H2 (e1.trans e2) w2
    | exc cl s2 => rw [q] at h; exact fun g2 H2 e2 w2 => h g2 H2 (e1.trans e2) w2
    | no => rw [q] at h; exact h
  | exc cl s1 => exact h
  | no => exact h
theorem Pg.opt {c : Ctx} {g : Gh} {H : Hp} {β : Type} {C : β → Sto → Gh → Hp → Prop} {o : Option β} {s : Sto} (h : Pg c g H C (M.opt o s)) : ∃ b, o = some b ∧ ∀ g' H', Ext g H g' H' → WF c.X.K c.T g' H' s → C b s g' H' := by
  cases o with
  | none => exact h.elim
  | some b => exact ⟨b, rfl, h⟩
theorem Pg.imp {c : Ctx} {g : Gh} {H : Hp} {β : Type} {C C' : β → Sto → Gh → Hp → Prop} {r : R β} (h : Pg c g H C r) (k : ∀ a s1 g1 H1, Ext g H g1 H1 → WF c.X.K c.T g1 H1 s1 → C a s1 g1 H1 → C' a s1 g1 H1) : Pg c g H C' r := by
  cases r with
  | ok a s1 => exact fun g1 H1 e1 w1 => k a s1 g1 H1 e1 w1 (h g1 H1 e1 w1)
  | exc cl s1 => exact h
  | no => exact h
theorem Pg.mono {c : Ctx} {g g1 : Gh} {H H1 : Hp} {β : Type} {C : β → Sto → Gh → Hp → Prop} {r : R β} (e : Ext g H g1 H1) (h : Pg c g H C r) : Pg c g1 H1 C r := by
  cases r with
  | ok a s1 => exact fun g2 H2 e2 w2 => h g2 H2 (e.trans e2) w2
  | exc cl s1 => exact fun g2 H2 e2 w2 => h g2 H2 (e.trans e2) w2
  | no => exact h
/-- here and now -/
theorem Pg.now {c : Ctx} {g : Gh} {H : Hp} {β : Type} {C : β → Sto → Gh → Hp → Prop} {b : β} {s : Sto} (h : Pg c g H C (.ok b s)) (w : WF c.X.K c.T g H s) : C b s g H := h g H (Ext.refl g H) w
def DE (k : Kd) (c : Ctx) (e : Expr) (f : ED) : Prop := ∃ t : TE, PE c.X e t ∧ ∀ g H s σ τ Q, Ok c g H s σ τ → Pg c g H (fun d _ g' H' => ∀ v, RK k c.X.K g' H H' v d → Q v H') (f τ s) → t σ H Q
def DT (c : Ctx) (e : Expr) (f : TD) : Prop := ∃ t : TT, PT c.X e t ∧ ∀ g H s σ τ Q, Ok c g H s σ τ → Pg c g H (fun b _ _ H' => Q b H') (f τ s) → t σ H Q
/-- the ands and ors -/
def DW (c : Ctx) (e : Expr) (f : TD) : Prop := ∃ t : TT, PW c.X e t ∧ ∀ g H s σ τ Q, Ok c g H s σ τ → Pg c g H (fun b _ _ H' => Q b H') (f τ s) → t σ H Q
inductive RKs (k : Kd) (K : PySem.W.Frag) (g : Gh) (H0 H : Hp) : List V → List D → Prop
  | nil : RKs k K g H0 H [] []
  | cons {v : V} {vs : List V} {d : D} {ds : List D} : RK k K g H0 H v d → RKs k K g H0 H vs ds → RKs k K g H0 H (v :: vs) (d :: ds)
def DA (k : Kd) (c : Ctx) (es : List Expr) (f : AD) : Prop := ∃ t : TA, PA c.X es t ∧ ∀ g H s σ τ Q, Ok c g H s σ τ → Pg c g H (fun ds _ g' H' => ∀ vs, RKs k c.X.K g' H H' vs ds → Q vs H') (f τ s) → t σ H Q
theorem RK.ext {k : Kd} {K : PySem.W.Frag} {g g' : Gh} {H0 H1 H H' : Hp} {v : V} {d : D} (e : Ext g H g' H') (h0 : ∀ p, H0 p = none → H1 p = none) (h : RK k K g H0 H v d) : RK k K g' H1 H' v d := by
  cases k with
  | z => exact Rep.mono e.le h
  | b =>
    rcases h with h | h
    · exact .inl (h.mono e.le)
    · exact .inr (h.ext e)
  | o =>
    rcases h with ⟨h1, h⟩ | ⟨h, p, h1, h2⟩
    · exact .inl ⟨h1, h.mono e.le⟩
    · exact .inr ⟨h.ext e, p, h1, h0 p h2⟩
theorem RKs.ext {k : Kd} {K : PySem.W.Frag} {g g' : Gh} {H0 H1 H H' : Hp} (e : Ext g H g' H') (h0 : ∀ p, H0 p = none → H1 p = none) : ∀ {vs : List V} {ds : List D}, RKs k K g H0 H vs ds → RKs k K g' H1 H' vs ds
  | _, _, .nil => .nil
  | _, _, .cons h r => .cons (h.ext e h0) (RKs.ext e h0 r)
theorem Ok.ext {c : Ctx} {g g' : Gh} {H H' : Hp} {s s' : Sto} {σ : St} {τ : Ev} (o : Ok c g H s σ τ) (e : Ext g H g' H') (w : WF c.X.K c.T g' H' s') : Ok c g' H' s' σ τ := ⟨w, o.sl.ext e⟩
end Mir

set_option Elab.async false
set_option linter.all false
set_option maxRecDepth 100000
set_option maxHeartbeats 4000000
/-! Mir, part B: expressions. -/
namespace Mir
open PySem PySem.Spec PyProof.Rows L2
/-! ### what readings evaluate to -/
def Evs (k : Kd) (c : Ctx) (t : TE) (f : ED) : Prop := ∀ g H s σ τ Q, Ok c g H s σ τ → Pg c g H (fun d _ g' H' => ∀ v, RK k c.X.K g' H H' v d → Q v H') (f τ s) → t σ H Q
def Evt (c : Ctx) (t : TT) (f : TD) : Prop := ∀ g H s σ τ Q, Ok c g H s σ τ → Pg c g H (fun b _ _ H' => Q b H') (f τ s) → t σ H Q
def Eva (k : Kd) (c : Ctx) (t : TA) (f : AD) : Prop := ∀ g H s σ τ Q, Ok c g H s σ τ → Pg c g H (fun ds _ g' H' => ∀ vs, RKs k c.X.K g' H H' vs ds → Q vs H') (f τ s) → t σ H Q
section
variable {c : Ctx}
theorem de_mk {k : Kd} {e : Expr} {t : TE} {f : ED} (p : PE c.X e t) (q : Evs k c t f) : DE k c e f := ⟨t, p, q⟩
theorem dt_mk {e : Expr} {t : TT} {f : TD} (p : PT c.X e t) (q : Evt c t f) : DT c e f := ⟨t, p, q⟩
/-! ### kinds -/
theorem RK.ob {K : PySem.W.Frag} {g : Gh} {H0 H : Hp} {v : V} {d : D} (h : RK .o K g H0 H v d) : RK .b K g H0 H v d := by
  rcases h with ⟨_, h⟩ | ⟨h, _⟩
  · exact .inl h
  · exact .inr h
theorem RK.of {K : PySem.W.Frag} {g : Gh} {H0 H : Hp} {v : V} {d : D} (h : Rep K g v d) (hc : isCt d = false := by rfl) : RK .o K g H0 H v d := .inl ⟨hc, h⟩
/-- what is new and one's own is frozen -/
theorem RK.oz {K : PySem.W.Frag} {T : List (Addr × Str)} {g g' : Gh} {H H' : Hp} {s : Sto} {v : V} {d : D} (e : Ext g H g' H') (w : WF K T g' H' s) (h : RK .o K g' H H' v d) : ∃ g2, Ext g H g2 H' ∧ WF K T g2 H' s ∧ Le g' g2 ∧ Rep K g2 v d := by
  rcases h with ⟨_, h⟩ | ⟨h, p, hp, hn⟩
  · exact ⟨g', e, w, Le.refl _, h⟩
  · cases h with
    | lst h1 h2 h3 h4 =>
      cases hp
      exact ⟨_, e.freeze hn (.inl h1), w.freeze h3 h2 (fun ps => by simp), Gh.frz_le (.inl h1), .lst Gh.frz_at (h4.mono (Gh.frz_le (.inl h1)))⟩
    | dct h1 h2 h3 l h4 =>
      cases hp
      exact ⟨_, e.freeze hn (.inl h1), w.freeze h3 h2 (fun ps => by simp), Gh.frz_le (.inl h1), .dct Gh.frz_at l (h4.mono (Gh.frz_le (.inl h1)))⟩
theorem evs_oz {t : TE} {f : ED} (q : Evs .o c t f) : Evs .z c t f := fun g H s σ τ Q o h => q g H s σ τ Q o (by
  cases r : f τ s with
  | ok d s' =>
    rw [r] at h
    intro g' H' e' w' v hv
    obtain ⟨g2, e2, w2, _, r2⟩ := hv.oz e' w'
    exact h g2 H' e2 w2 v r2
  | exc cl s' => rw [r] at h; exact h
  | no => rw [r] at h; exact h)
theorem de_oz {e : Expr} {f : ED} (h : DE .o c e f) : DE .z c e f := by
  obtain ⟨t, p, q⟩ := h
  exact ⟨t, p, evs_oz q⟩
theorem de_ob {e : Expr} {f : ED} (h : DE .o c e f) : DE .b c e f := by
  obtain ⟨t, p, q⟩ := h
  exact ⟨t, p, fun g H s σ τ Q o h => q g H s σ τ Q o (h.imp fun d s1 g1 H1 e1 w1 k v hv => k v hv.ob)⟩
theorem de_zb {e : Expr} {f : ED} (h : DE .z c e f) : DE .b c e f := by
  obtain ⟨t, p, q⟩ := h
  exact ⟨t, p, fun g H s σ τ Q o h => q g H s σ τ Q o (h.imp fun d s1 g1 H1 e1 w1 k v hv => k v (.inl hv))⟩
theorem RK.extB {K : PySem.W.Frag} {g g' : Gh} {H0 H1 H H' : Hp} {v : V} {d : D} (e : Ext g H g' H') (h : RK .b K g H0 H v d) : RK .b K g' H1 H' v d := by
  rcases h with h | h
  · exact .inl (h.mono e.le)
  · exact .inr (h.ext e)
theorem RKs.extB {K : PySem.W.Frag} {g g' : Gh} {H0 H1 H H' : Hp} (e : Ext g H g' H') : ∀ {vs : List V} {ds : List D}, RKs .b K g H0 H vs ds → RKs .b K g' H1 H' vs ds
  | _, _, .nil => .nil
  | _, _, .cons h r => .cons (h.extB e) (RKs.extB e r)
theorem RKs.reps {K : PySem.W.Frag} {g : Gh} {H0 H : Hp} : ∀ {vs : List V} {ds : List D}, RKs .z K g H0 H vs ds → Reps K g vs ds
  | _, _, .nil => .nil
  | _, _, .cons h r => .cons h (RKs.reps r)
/-! ### what a value that is read is -/
section
variable {K : PySem.W.Frag} {T : List (Addr × Str)} {g : Gh} {H0 H : Hp} {s : Sto} {v : V}
theorem RK.rep {k : Kd} {d : D} (h : RK k K g H0 H v d) (hc : isCt d = false := by rfl) : Rep K g v d := by
  cases k with
  | z => exact h
  | b =>
    rcases h with h | h
    · exact h
    · cases h <;> cases hc
  | o =>
    rcases h with ⟨_, h⟩ | ⟨h, _⟩
    · exact h
    · cases h <;> cases hc
theorem RK.bl {k : Kd} {b : Bool} (h : RK k K g H0 H v (.bl b)) : v = .bl b := by
  have h := h.rep
  cases h; rfl
theorem RK.int {k : Kd} {i : Int} (h : RK k K g H0 H v (.int i)) : v = .int i := by
  have h := h.rep
  cases h; rfl
theorem RK.str {k : Kd} {x : Str} (h : RK k K g H0 H v (.str x)) : v = .str x := by
  have h := h.rep
  cases h; rfl
theorem RK.non {k : Kd} (h : RK k K g H0 H v .non) : v = .non := by
  have h := h.rep
  cases h; rfl
theorem RK.tup (w : WF K T g H s) {k : Kd} {ds : List D} (h : RK k K g H0 H v (.tup ds)) : ∃ a xs, v = .ref a ∧ SqT K H a xs ∧ Reps K g xs ds := by
  have h := h.rep
  cases h with
  | tup h' r => exact ⟨_, _, rfl, sqT_mono w.sub h', r⟩
theorem RK.scr (w : WF K T g H s) {k : Kd} {ns : List Int} (h : RK k K g H0 H v (.scr ns)) : ∃ a, v = .ref a ∧ SqL K H a (ns.map V.int) := by
  have h := h.rep
  cases h with
  | scr h' => exact ⟨_, rfl, sqL_mono w.sub h'⟩
theorem RK.lst (w : WF K T g H s) {ds : List D} (h : RK .b K g H0 H v (.lst ds)) : ∃ a xs, v = .ref a ∧ H a = some (.lst xs) ∧ Reps K g xs ds := by
  rcases h with h | h
  · cases h with
    | lst h r => exact ⟨_, _, rfl, w.sub _ _ h, r⟩
  · cases h with
    | lst h1 h2 h3 h4 => exact ⟨_, _, rfl, h3, h4⟩
theorem RK.dct (w : WF K T g H s) {kds : List (Key × D)} (h : RK .b K g H0 H v (.dct kds)) : ∃ (a : Addr) (ks : List Key) (xs : List V) (ds : List D), v = .ref a ∧ kds = ks.zip ds ∧ H a = some (.dK (ks.zip xs)) ∧ ks.length = xs.length ∧ Reps K g xs ds := by
  rcases h with h | h
  · cases h with
    | dct h l r => exact ⟨_, _, _, _, rfl, rfl, w.sub _ _ h, l, r⟩
  · cases h with
    | dct h1 h2 h3 l h4 => exact ⟨_, _, _, _, rfl, rfl, h3, l, h4⟩
end
/-! ### names, constants -/
def eVar (i : Nat) : ED := fun τ => match τ[i]? with
  | some (some d) => M.ret d
  | _ => fun _ => .no
def eC (d : D) : ED := fun _ => M.ret d
theorem evs_c {t : TE} {v : V} {d : D} (ht : ∀ σ H Q, Q v H → t σ H Q) (hr : ∀ g, Rep c.X.K g v d) (hc : isCt d = false := by rfl) : Evs .o c t (eC d) :=
  fun g H s σ τ Q o h => ht _ _ _ (Pg.now h o.wf v (.of (hr g) hc))
theorem de_int {i j pos} : DE .o c (.Constant (.int i) j pos) (eC (.int i)) := de_mk pe_int (evs_c (fun _ _ _ q => q) fun _ => .int i)
theorem de_bl {i j pos} : DE .o c (.Constant (.bool i) j pos) (eC (.bl i)) := de_mk pe_bl (evs_c (fun _ _ _ q => q) fun _ => .bl i)
theorem de_non {j pos} : DE .o c (.Constant .none j pos) (eC .non) := de_mk pe_non (evs_c (fun _ _ _ q => q) fun _ => .non)
theorem de_str {x j pos} : DE .o c (.Constant (.str x) j pos) (eC (.str x)) := de_mk pe_str (evs_c (fun _ _ _ q => q) fun _ => .str x)
theorem de_gint {x : Str} {i : Int} {pos : Pos} (hm : ∃ t, c.X.mg x = some (.int i t)) (hg : Gl c.X x := by rfl) (hd : (x == ("__debug__" : Str)) = false := by decide) : DE .o c (.Name x pos) (eC (.int i)) := by
  obtain ⟨t, hm⟩ := hm
  exact de_mk (pe_glob (v := .int i) hg hm ⟨t, rfl⟩ hd) (evs_c (fun _ _ _ q => q) fun _ => .int i)
theorem de_gstr {x : Str} {i : Str} {pos : Pos} (hm : ∃ t, c.X.mg x = some (.str i t)) (hg : Gl c.X x := by rfl) (hd : (x == ("__debug__" : Str)) = false := by decide) : DE .o c (.Name x pos) (eC (.str i)) := by
  obtain ⟨t, hm⟩ := hm
  exact de_mk (pe_glob (v := .str i) hg hm ⟨t, rfl⟩ hd) (evs_c (fun _ _ _ q => q) fun _ => .str i)
theorem evs_var {k : Kd} {i : Nat} (h : ∀ g H s σ τ d v, Ok c g H s σ τ → τ[i]? = some (some d) → σ[i]? = some (some v) → (if c.O i = true then Own c.X.K g H v d else Rep c.X.K g v d) → RK k c.X.K g H H v d) : Evs k c (tVar i) (eVar i) := fun g H s σ τ Q o hh => by
  unfold eVar at hh
  cases q : τ[i]? with
  | none => rw [q] at hh; exact hh.elim
  | some od =>
    cases od with
    | none => rw [q] at hh; exact hh.elim
    | some d =>
      rw [q] at hh
      obtain ⟨v, h1, h2⟩ := o.sl.at_ i d q
      exact ⟨v, h1, Pg.now hh o.wf v (h g H s σ τ d v o q h1 h2)⟩
/-- a slot that is not one's own: frozen -/
theorem de_var (i : Nat) {x : Str} {pos : Pos} (hO : c.O i = false := by rfl) (hN : c.X.N[i]? = some x := by rfl) (hv : Vis c.X.env.scope x := by first | exact Or.inl rfl | exact Or.inr (Or.inl rfl) | exact Or.inr (Or.inr rfl)) (hd : (x == ("__debug__" : Str)) = false := by decide)
    (hcd : (x == ("__classdict__" : Str)) = false := by decide) : DE .z c (.Name x pos) (eVar i) :=
  de_mk (pe_var hN hv hd hcd) (evs_var fun g H s σ τ d v o _ _ h => by rw [hO, if_neg Bool.false_ne_true] at h; exact h)
/-- .. one's own: to be read -/
theorem de_own (i : Nat) {x : Str} {pos : Pos} (hO : c.O i = true := by rfl) (hN : c.X.N[i]? = some x := by rfl) (hv : Vis c.X.env.scope x := by first | exact Or.inl rfl | exact Or.inr (Or.inl rfl) | exact Or.inr (Or.inr rfl)) (hd : (x == ("__debug__" : Str)) = false := by decide)
    (hcd : (x == ("__classdict__" : Str)) = false := by decide) : DE .b c (.Name x pos) (eVar i) :=
  de_mk (pe_var hN hv hd hcd) (evs_var fun g H s σ τ d v o _ _ h => by rw [hO, if_pos rfl] at h; exact .inr h)
/-! ### operations -/
def e2 (op : D → D → Option D) (a b : ED) : ED := fun τ s => (a τ s).bind fun x s => (b τ s).bind fun y => M.opt (op x y)
def e1 (op : D → Option D) (a : ED) : ED := fun τ s => (a τ s).bind fun x => M.opt (op x)
def eN (op : List D → Option D) (a : AD) : ED := fun τ s => (a τ s).bind fun xs => M.opt (op xs)
/-- what is wanted of an operation's value -/
abbrev Wt (c : Ctx) (g : Gh) (H : Hp) (s : Sto) (d : D) (Q : VK) : Prop := ∀ v g' H', Ext g H g' H' → WF c.X.K c.T g' H' s → RK .o c.X.K g' H H' v d → Q v H'
theorem Wt.here {g : Gh} {H : Hp} {s : Sto} {d : D} {Q : VK} (h : Wt c g H s d Q) (w : WF c.X.K c.T g H s) {v : V} (r : Rep c.X.K g v d) (hc : isCt d = false := by rfl) : Q v H := h v g H (Ext.refl g H) w (.of r hc)
/-- a new list -/
theorem Wt.lst {g : Gh} {H : Hp} {s : Sto} {ds : List D} {Q : VK} (h : Wt c g H s (.lst ds) Q) (w : WF c.X.K c.T g H s) {xs : List V} (r : Reps c.X.K g xs ds) {p : Addr} (hp : H p = none) : Q (.ref p) (upd H p (.lst xs)) :=
  h (.ref p) g _ (Ext.new hp) (w.new hp) (.inr ⟨.lst (w.gne hp) (fun n => w.rne hp) upd_same r, p, rfl, hp⟩)
/-- a new tuple -/
theorem Wt.tup {g : Gh} {H : Hp} {s : Sto} {ds : List D} {Q : VK} (h : Wt c g H s (.tup ds) Q) (w : WF c.X.K c.T g H s) {xs : List V} (r : Reps c.X.K g xs ds) {p : Addr} (hp : H p = none) : Q (.ref p) (upd H p (.tup xs)) :=
  h (.ref p) _ _ (w.extF hp) (w.newF hp fun ps => by simp) (.of (.tup (SqT.of Gh.frz_at) (r.mono (Gh.frz_le (.inl (w.gne hp))))))
def OpD (c : Ctx) (fn : Value → Value → Sem Value) (op : D → D → Option D) : Prop := ∃ r, OpR c.X fn r ∧ ∀ g H s x y dx dy d Q, WF c.X.K c.T g H s → RK .b c.X.K g H H x dx → RK .b c.X.K g H H y dy → op dx dy = some d → Wt c g H s d Q → r x y H Q
def UnD (c : Ctx) (fn : Value → Sem Value) (op : D → Option D) : Prop := ∃ r, UnR c.X fn r ∧ ∀ g H s x dx d Q, WF c.X.K c.T g H s → RK .b c.X.K g H H x dx → op dx = some d → Wt c g H s d Q → r x H Q
def CallD (c : Ctx) (f : Value) (op : List D → Option D) : Prop := ∃ r, CallR c.X f r ∧ ∀ g H s xs ds d Q, WF c.X.K c.T g H s → RKs .b c.X.K g H H xs ds → op ds = some d → Wt c g H s d Q → r xs H Q
def MtD (c : Ctx) (id : String) (op : D → List D → Option D) : Prop := ∃ r, MtR c.X id r ∧ ∀ g H s x xs dx ds d Q, WF c.X.K c.T g H s → RK .b c.X.K g H H x dx → RKs .b c.X.K g H H xs ds → op dx ds = some d → Wt c g H s d Q → r x xs H Q
def orO {α β : Type} (f g : α → β → Option D) : α → β → Option D := fun x y => match f x y with
  | some d => some d
  | none => g x y
def or1 {α : Type} (f g : α → Option D) : α → Option D := fun x => match f x with
  | some d => some d
  | none => g x
theorem OpD.or {fn : Value → Value → Sem Value} {f f' : D → D → Option D} (h : OpD c fn f) (h' : OpD c fn f') : OpD c fn (orO f f') := by
  obtain ⟨r, p, q⟩ := h
  obtain ⟨r', p', q'⟩ := h'
  refine ⟨_, p.or p', fun g H s x y dx dy d Q w rx ry e k => ?_⟩
  unfold orO at e
  cases z : f dx dy with
  | some d' => rw [z] at e; cases e; exact .inl (q g H s x y dx dy _ Q w rx ry z k)
  | none => rw [z] at e; exact .inr (q' g H s x y dx dy d Q w rx ry e k)
theorem CallD.or {fn : Value} {f f' : List D → Option D} (h : CallD c fn f) (h' : CallD c fn f') : CallD c fn (or1 f f') := by
  obtain ⟨r, p, q⟩ := h
  obtain ⟨r', p', q'⟩ := h'
  refine ⟨_, p.or p', fun g H s xs ds d Q w rx e k => ?_⟩
  unfold or1 at e
  cases z : f ds with
  | some d' => rw [z] at e; cases e; exact .inl (q g H s xs ds _ Q w rx z k)
  | none => rw [z] at e; exact .inr (q' g H s xs ds d Q w rx e k)
theorem evs_op2 {op : D → D → Option D} {fa fb : ED} {ta tb : TE} {r : R2} (qr : ∀ g H s x y dx dy d Q, WF c.X.K c.T g H s → RK .b c.X.K g H H x dx → RK .b c.X.K g H H y dy → op dx dy = some d → Wt c g H s d Q → r x y H Q)
    (qa : Evs .b c ta fa) (qb : Evs .b c tb fb) : Evs .o c (tOp r ta tb) (e2 op fa fb) := fun g H s σ τ Q o h =>
  qa g H s σ τ _ o (Pg.seq h fun x s1 g1 H1 _ e1 w1 h1 v rx => qb g1 H1 s1 σ τ _ (o.ext e1 w1) (Pg.seq h1 fun y s2 g2 H2 _ e2 w2 h2 u ry => by
    obtain ⟨d, ed, k⟩ := h2.opt
    exact qr g2 H2 s2 v u x y d Q w2 (rx.extB e2) ry ed fun v' g' H' e' w' r' => k g' H' e' w' v' (r'.ext (Ext.refl _ _) fun p q => (e1.trans e2).fresh q)))
theorem de_un {a : Expr} {op : UnaryOp} {f : D → Option D} {fa : ED} {pos : Pos} (ho : UnD c (unaryOp op) f) (ha : DE .b c a fa) : DE .o c (.UnaryOp op a pos) (e1 f fa) := by
  obtain ⟨r, pr, qr⟩ := ho
  obtain ⟨ta, pa, qa⟩ := ha
  refine ⟨tUn r ta, pe_un pr pa, fun g H s σ τ Q o h => qa g H s σ τ _ o (Pg.seq h fun x s1 g1 H1 _ e1 w1 h1 v rx => ?_)⟩
  obtain ⟨d, ed, k⟩ := h1.opt
  exact qr g1 H1 s1 v x d Q w1 rx ed fun v' g' H' e' w' r' => k g' H' e' w' v' (r'.ext (Ext.refl _ _) fun p q => e1.fresh q)
theorem de_bin {a b : Expr} {op : Operator} {f : D → D → Option D} {fa fb : ED} {pos : Pos} (ho : OpD c (binaryOp op) f) (ha : DE .b c a fa) (hb : DE .b c b fb) : DE .o c (.BinOp a op b pos) (e2 f fa fb) := by
  obtain ⟨r, pr, qr⟩ := ho
  obtain ⟨ta, pa, qa⟩ := ha
  obtain ⟨tb, pb, qb⟩ := hb
  exact de_mk (pe_op pr pa pb) (evs_op2 qr qa qb)
theorem de_cmp {a b : Expr} {op : CmpOp} {f : D → D → Option D} {fa fb : ED} {pos : Pos} (ho : OpD c (compareOp op) f) (ha : DE .b c a fa) (hb : DE .b c b fb) (hm : behindInMarks op b = false := by first | exact nomark _ | rfl) : DE .o c (.Compare a [op] [b] pos) (e2 f fa fb) := by
  obtain ⟨r, pr, qr⟩ := ho
  obtain ⟨ta, pa, qa⟩ := ha
  obtain ⟨tb, pb, qb⟩ := hb
  exact de_mk (pe_cmpR pr pa pb hm) (evs_op2 qr qa qb)
/-! ### tests -/
def toB : D → M Bool
  | .bl b => M.ret b
  | _ => fun _ => .no
def tB1 (f : ED) : TD := fun τ s => (f τ s).bind toB
theorem evt_test {k : Kd} {f : ED} {t : TE} (q : Evs k c t f) : Evt c (tTest t) (tB1 f) := fun g H s σ τ Q o h => q g H s σ τ _ o (Pg.seq h fun x s1 g1 H1 _ e1 w1 h1 v rx => by
  cases x with
  | bl b => exact ⟨b, rx.bl, Pg.now h1 w1⟩
  | _ => exact h1.elim)
/-- any expression whose test is its value's truth, a bool -/
theorem dt_val {k : Kd} {e : Expr} {f : ED} (h : DE k c e f) (he : ∀ whole, isTrue e c.X.env whole = (do let v ← whole; standAt e.pos; holding [v] (truthy v)) := by intro _; rfl) : DT c e (tB1 f) := by
  obtain ⟨t, p, q⟩ := h
  exact dt_mk (pt_val p he) (evt_test q)
theorem dt_cmp {a b : Expr} {op : CmpOp} {f : D → D → Option D} {fa fb : ED} {pos : Pos} (ho : OpD c (compareOp op) f) (ha : DE .b c a fa) (hb : DE .b c b fb) (hm : behindInMarks op b = false := by first | exact nomark _ | rfl) : DT c (.Compare a [op] [b] pos) (tB1 (e2 f fa fb)) := by
  obtain ⟨r, pr, qr⟩ := ho
  obtain ⟨ta, pa, qa⟩ := ha
  obtain ⟨tb, pb, qb⟩ := hb
  exact dt_mk (pt_cmpR pr pa pb hm) (evt_test (evs_op2 qr qa qb))
/-- a op b op' c -/
def eCh (op op' : D → D → Option D) (a b d : ED) : ED := fun τ s => (a τ s).bind fun x s => (b τ s).bind fun y s => (M.opt (op x y) s).bind fun z => match z with
  | .bl true => fun s => (d τ s).bind fun u => M.opt (op' y u)
  | .bl false => M.ret (.bl false)
  | _ => fun _ => .no
theorem evs_chain {op op' : D → D → Option D} {fa fb fd : ED} {ta tb td : TE} {r r' : R2} (qr : ∀ g H s x y dx dy d Q, WF c.X.K c.T g H s → RK .b c.X.K g H H x dx → RK .b c.X.K g H H y dy → op dx dy = some d → Wt c g H s d Q → r x y H Q)
    (qr' : ∀ g H s x y dx dy d Q, WF c.X.K c.T g H s → RK .b c.X.K g H H x dx → RK .b c.X.K g H H y dy → op' dx dy = some d → Wt c g H s d Q → r' x y H Q)
    (qa : Evs .b c ta fa) (qb : Evs .b c tb fb) (qd : Evs .b c td fd) : Evs .o c (tChain r r' ta tb td) (eCh op op' fa fb fd) := fun g H s σ τ Q o h =>
  qa g H s σ τ _ o (Pg.seq h fun x s1 g1 H1 _ e1 w1 h1 v rx => qb g1 H1 s1 σ τ _ (o.ext e1 w1) (Pg.seq h1 fun y s2 g2 H2 _ e2 w2 h2 u ry => by
    cases ez : op x y with
    | none => rw [ez] at h2; exact h2.elim
    | some z =>
      rw [ez] at h2
      refine qr g2 H2 s2 v u x y z _ w2 (rx.extB e2) ry ez fun v' g' H' e' w' r' => ?_
      cases z with
      | bl k =>
        refine ⟨k, r'.bl, ?_⟩
        cases k with
        | true =>
          rw [if_pos rfl]
          have h2 : Pg c g2 H2 _ ((fd τ s2).bind fun u => M.opt (op' y u)) := h2
          refine qd g' H' s2 σ τ _ ((o.ext (e1.trans e2) w2).ext e' w') (Pg.seq (h2.mono e') fun m s3 g3 H3 _ e3 w3 h3 n rn => ?_)
          obtain ⟨d, ed, kk⟩ := h3.opt
          exact qr' g3 H3 s3 u n y m d Q w3 (ry.extB (e'.trans e3)) rn ed fun v' g' H' e'' w' r' => kk g' H' e'' w' v' (r'.ext (Ext.refl _ _) fun p q => (((e1.trans e2).trans e').trans e3).fresh q)
        | false =>
          rw [if_neg Bool.false_ne_true]
          exact h2 g' H' e' w' (.bl false) (.of (.bl false))
      | _ => exact h2.elim))
theorem de_chain {a b d : Expr} {op op' : CmpOp} {f f' : D → D → Option D} {fa fb fd : ED} {pos : Pos} (ho : OpD c (compareOp op) f) (ho' : OpD c (compareOp op') f') (ha : DE .b c a fa) (hb : DE .b c b fb) (hd : DE .b c d fd) (hm : lastMarks [op, op'] [b, d] = false := by rfl) : DE .o c (.Compare a [op, op'] [b, d] pos) (eCh f f' fa fb fd) := by
  obtain ⟨r, pr, qr⟩ := ho
  obtain ⟨r', pr', qr'⟩ := ho'
  obtain ⟨ta, pa, qa⟩ := ha
  obtain ⟨tb, pb, qb⟩ := hb
  obtain ⟨td, pd, qd⟩ := hd
  exact de_mk (pe_chain pr pr' pa pb pd hm) (evs_chain qr qr' qa qb qd)
theorem dt_chain {a b d : Expr} {op op' : CmpOp} {f f' : D → D → Option D} {fa fb fd : ED} {pos : Pos} (ho : OpD c (compareOp op) f) (ho' : OpD c (compareOp op') f') (ha : DE .b c a fa) (hb : DE .b c b fb) (hd : DE .b c d fd) (hm : lastMarks [op, op'] [b, d] = false := by rfl) : DT c (.Compare a [op, op'] [b, d] pos) (tB1 (eCh f f' fa fb fd)) := by
  obtain ⟨r, pr, qr⟩ := ho
  obtain ⟨r', pr', qr'⟩ := ho'
  obtain ⟨ta, pa, qa⟩ := ha
  obtain ⟨tb, pb, qb⟩ := hb
  obtain ⟨td, pd, qd⟩ := hd
  exact dt_mk (pt_chain pr pr' pa pb pd hm) (evt_test (evs_chain qr qr' qa qb qd))
/-! ### and, or, not -/
def tAndD (a b : TD) : TD := fun τ s => (a τ s).bind fun x => match x with
  | true => b τ
  | false => M.ret false
def tOrD (a b : TD) : TD := fun τ s => (a τ s).bind fun x => match x with
  | true => M.ret true
  | false => b τ
def tNotD (a : TD) : TD := fun τ s => (a τ s).bind fun x => M.ret (!x)
theorem evt_and {fa fb : TD} {ta tb : TT} (qa : Evt c ta fa) (qb : Evt c tb fb) : Evt c (tAnd ta tb) (tAndD fa fb) := fun g H s σ τ Q o h =>
  qa g H s σ τ _ o (Pg.seq h fun x s1 g1 H1 _ e1 w1 h1 => by
    cases x with
    | true => show tb σ H1 Q; exact qb g1 H1 s1 σ τ Q (o.ext e1 w1) h1
    | false => exact Pg.now h1 w1)
theorem evt_or {fa fb : TD} {ta tb : TT} (qa : Evt c ta fa) (qb : Evt c tb fb) : Evt c (tOr ta tb) (tOrD fa fb) := fun g H s σ τ Q o h =>
  qa g H s σ τ _ o (Pg.seq h fun x s1 g1 H1 _ e1 w1 h1 => by
    cases x with
    | true => exact Pg.now h1 w1
    | false => show tb σ H1 Q; exact qb g1 H1 s1 σ τ Q (o.ext e1 w1) h1)
theorem dw_and1 {a : Expr} {fa : TD} {pos : Pos} (h : DT c a fa) : DW c (.BoolOp .And [a] pos) fa := by
  obtain ⟨t, p, q⟩ := h
  exact ⟨t, pw_and1 p, q⟩
theorem dw_or1 {a : Expr} {fa : TD} {pos : Pos} (h : DT c a fa) : DW c (.BoolOp .Or [a] pos) fa := by
  obtain ⟨t, p, q⟩ := h
  exact ⟨t, pw_or1 p, q⟩
theorem dw_and {a b : Expr} {rest : List Expr} {fa fb : TD} {pos : Pos} (ha : DT c a fa) (hb : DW c (.BoolOp .And (b :: rest) pos) fb) : DW c (.BoolOp .And (a :: b :: rest) pos) (tAndD fa fb) := by
  obtain ⟨t, p, q⟩ := ha
  obtain ⟨u, p', q'⟩ := hb
  exact ⟨_, pw_and p p', evt_and q q'⟩
theorem dw_or {a b : Expr} {rest : List Expr} {fa fb : TD} {pos : Pos} (ha : DT c a fa) (hb : DW c (.BoolOp .Or (b :: rest) pos) fb) : DW c (.BoolOp .Or (a :: b :: rest) pos) (tOrD fa fb) := by
  obtain ⟨t, p, q⟩ := ha
  obtain ⟨u, p', q'⟩ := hb
  exact ⟨_, pw_or p p', evt_or q q'⟩
theorem DW.dt {e : Expr} {f : TD} (h : DW c e f) : DT c e f := by
  obtain ⟨t, p, q⟩ := h
  exact ⟨t, p.pt, q⟩
theorem dt_not {a : Expr} {fa : TD} {pos : Pos} (h : DT c a fa) : DT c (.UnaryOp .Not a pos) (tNotD fa) := by
  obtain ⟨t, p, q⟩ := h
  exact dt_mk (pt_not p) fun g H s σ τ Q o h => q g H s σ τ _ o (Pg.seq h fun x s1 g1 H1 _ e1 w1 h1 => Pg.now h1 w1)
/-- .. as values -/
def eAndD (a b : ED) : ED := fun τ s => (a τ s).bind fun x => match x with
  | .bl true => b τ
  | .bl false => M.ret (.bl false)
  | _ => fun _ => .no
def eOrD (a b : ED) : ED := fun τ s => (a τ s).bind fun x => match x with
  | .bl true => M.ret (.bl true)
  | .bl false => b τ
  | _ => fun _ => .no
def notD : D → Option D
  | .bl b => some (.bl (!b))
  | _ => none
theorem de_one {op} {a : Expr} {f : ED} {pos : Pos} {k : Kd} (h : DE k c a f) : DE k c (.BoolOp op [a] pos) f := by
  obtain ⟨t, p, q⟩ := h
  exact ⟨t, pe_one p, q⟩
theorem Pg.back {k : Kd} {g g1 : Gh} {H H1 : Hp} {Q : VK} {r : R D} (e : Ext g H g1 H1) (h : Pg c g1 H1 (fun d _ g' H' => ∀ v, RK k c.X.K g' H H' v d → Q v H') r) : Pg c g1 H1 (fun d _ g' H' => ∀ v, RK k c.X.K g' H1 H' v d → Q v H') r :=
  h.imp fun d s2 g2 H2 e2 w2 kk v rv => kk v (rv.ext (Ext.refl _ _) fun p q => e.fresh q)
theorem RK.anyB {k : Kd} {K : PySem.W.Frag} {g : Gh} {H0 H : Hp} (b : Bool) : RK k K g H0 H (.bl b) (.bl b) := by
  cases k with
  | z => exact Rep.bl b
  | b => exact Or.inl (Rep.bl b)
  | o => exact RK.of (Rep.bl b)
theorem de_and {k k' : Kd} {a b : Expr} {rest : List Expr} {fa fb : ED} {pos : Pos} (ha : DE k c a fa) (hb : DE k' c (.BoolOp .And (b :: rest) pos) fb) : DE k' c (.BoolOp .And (a :: b :: rest) pos) (eAndD fa fb) := by
  obtain ⟨t, p, q⟩ := ha
  obtain ⟨u, p', q'⟩ := hb
  refine de_mk (pe_and p p') fun g H s σ τ Q o h => q g H s σ τ _ o (Pg.seq h fun x s1 g1 H1 _ e1 w1 h1 v rx => ?_)
  cases x with
  | bl b =>
    refine ⟨b, rx.bl, ?_⟩
    cases b with
    | true => rw [if_pos rfl]; exact q' g1 H1 s1 σ τ Q (o.ext e1 w1) (h1.back e1)
    | false => rw [if_neg Bool.false_ne_true]; exact Pg.now h1 w1 _ (.anyB false)
  | _ => exact h1.elim
theorem de_or {k k' : Kd} {a b : Expr} {rest : List Expr} {fa fb : ED} {pos : Pos} (ha : DE k c a fa) (hb : DE k' c (.BoolOp .Or (b :: rest) pos) fb) : DE k' c (.BoolOp .Or (a :: b :: rest) pos) (eOrD fa fb) := by
  obtain ⟨t, p, q⟩ := ha
  obtain ⟨u, p', q'⟩ := hb
  refine de_mk (pe_or p p') fun g H s σ τ Q o h => q g H s σ τ _ o (Pg.seq h fun x s1 g1 H1 _ e1 w1 h1 v rx => ?_)
  cases x with
  | bl b =>
    refine ⟨b, rx.bl, ?_⟩
    cases b with
    | true => rw [if_pos rfl]; exact Pg.now h1 w1 _ (.anyB true)
    | false => rw [if_neg Bool.false_ne_true]; exact q' g1 H1 s1 σ τ Q (o.ext e1 w1) (h1.back e1)
  | _ => exact h1.elim
theorem de_not {k : Kd} {a : Expr} {fa : ED} {pos : Pos} (ha : DE k c a fa) : DE .o c (.UnaryOp .Not a pos) (e1 notD fa) := by
  obtain ⟨t, p, q⟩ := ha
  refine de_mk (pe_not p) fun g H s σ τ Q o h => q g H s σ τ _ o (Pg.seq h fun x s1 g1 H1 _ e1 w1 h1 v rx => ?_)
  cases x with
  | bl b => exact ⟨b, rx.bl, Pg.now h1 w1 _ (.of (.bl (!b)))⟩
  | _ => exact h1.elim
/-- a if t else b -/
def eIf (t : TD) (a b : ED) : ED := fun τ s => (t τ s).bind fun x => match x with
  | true => a τ
  | false => b τ
theorem de_if {k : Kd} {cd a b : Expr} {ft : TD} {fa fb : ED} {pos : Pos} (ht : DT c cd ft) (ha : DE k c a fa) (hb : DE k c b fb) : DE k c (.IfExp cd a b pos) (eIf ft fa fb) := by
  obtain ⟨t, p, q⟩ := ht
  obtain ⟨ta, pa, qa⟩ := ha
  obtain ⟨tb, pb, qb⟩ := hb
  refine de_mk (pe_ifExp p pa pb) fun g H s σ τ Q o h => q g H s σ τ _ o (Pg.seq h fun x s1 g1 H1 _ e1 w1 h1 => ?_)
  cases x with
  | true => rw [if_pos rfl]; exact qa g1 H1 s1 σ τ Q (o.ext e1 w1) (h1.back e1)
  | false => rw [if_neg Bool.false_ne_true]; exact qb g1 H1 s1 σ τ Q (o.ext e1 w1) (h1.back e1)
/-! ### lists of expressions -/
def aNil : AD := fun _ => M.ret []
def aCons (a : ED) (b : AD) : AD := fun τ s => (a τ s).bind fun x s => (b τ s).bind fun xs => M.ret (x :: xs)
theorem da_nil {k : Kd} : DA k c [] aNil := ⟨tNil, pa_nil, fun g H s σ τ Q o h => Pg.now h o.wf [] .nil⟩
theorem da_cons {k : Kd} {e : Expr} {es : List Expr} {f : ED} {fs : AD} (h : DE k c e f) (hr : DA k c es fs) (hs : starEach (e :: es) c.X.env = (false, eval e c.X.env) :: starEach es c.X.env := by rfl) : DA k c (e :: es) (aCons f fs) := by
  obtain ⟨t, p, q⟩ := h
  obtain ⟨tr, pr, qr⟩ := hr
  refine ⟨tCons t tr, pa_cons p pr hs, fun g H s σ τ Q o h => q g H s σ τ _ o (Pg.seq h fun x s1 g1 H1 _ e1 w1 h1 v rx => qr g1 H1 s1 σ τ _ (o.ext e1 w1) (Pg.seq h1 fun ys s2 g2 H2 _ e2 w2 h2 us ru => ?_))⟩
  refine Pg.now h2 w2 _ (.cons (rx.ext e2 fun p q => q) ?_)
  cases k with
  | b => exact ru.extB (Ext.refl _ _)
  | z => exact ru.ext (Ext.refl _ _) fun p q => e1.fresh q
  | o => exact ru.ext (Ext.refl _ _) fun p q => e1.fresh q
def small (n : Nat) : Bool := decide (n ≤ 16777216)
theorem small_line {n : Nat} (h : small n = true) : n ≤ sizeLine := by
  rw [sizeLine_eq]
  exact of_decide_eq_true h
def mkT (xs : List D) : Option D := if small xs.length then some (.tup xs) else none
def mkL (xs : List D) : Option D := if small xs.length then some (.lst xs) else none
theorem de_tup {es : List Expr} {fs : AD} {x1} {pos : Pos} (h : DA .z c es fs) : DE .o c (.Tuple es x1 pos) (eN mkT fs) := by
  obtain ⟨t, p, q⟩ := h
  refine de_mk (pe_tup p) fun g H s σ τ Q o h => q g H s σ τ _ o (Pg.seq h fun xs s1 g1 H1 _ e1 w1 h1 vs rs => ?_)
  obtain ⟨d, ed, k⟩ := h1.opt
  unfold mkT at ed
  split at ed
  · rename_i hz
    cases ed
    refine ⟨small_line (by rw [rs.reps.length]; exact hz), fun p hp => ?_⟩
    exact Wt.tup (c := c) (s := s1) (fun v g' H' e' w' r' => k g' H' e' w' v (r'.ext (Ext.refl _ _) fun p q => e1.fresh q)) w1 rs.reps hp
  · cases ed
theorem de_lst {es : List Expr} {fs : AD} {pos : Pos} (h : DA .z c es fs) : DE .o c (.List es pos) (eN mkL fs) := by
  obtain ⟨t, p, q⟩ := h
  refine de_mk (pe_lst p) fun g H s σ τ Q o h => q g H s σ τ _ o (Pg.seq h fun xs s1 g1 H1 _ e1 w1 h1 vs rs => ?_)
  obtain ⟨d, ed, k⟩ := h1.opt
  unfold mkL at ed
  split at ed
  · rename_i hz
    cases ed
    refine ⟨small_line (by rw [rs.reps.length]; exact hz), fun p hp => ?_⟩
    exact Wt.lst (c := c) (s := s1) (fun v g' H' e' w' r' => k g' H' e' w' v (r'.ext (Ext.refl _ _) fun p q => e1.fresh q)) w1 rs.reps hp
  · cases ed
/-! ### calls of what is built in -/
theorem de_callB {e : Expr} {es : List Expr} {x : Str} {id : String} {op : List D → Option D} {fs : AD} {p pos : Pos} (ho : CallD c (.builtin id) op) (ha : DA .b c (e :: es) fs) (hm : c.X.mg x = none) (hv : bootBuiltins x = some (.builtin id)) (hg : Gl c.X x := by rfl) (hn : x ≠ "__name__" := by decide) (hdb : (x == ("__debug__" : Str)) = false := by decide)
    (he : starEach (e :: es) c.X.env = (false, eval e c.X.env) :: starEach es c.X.env := by rfl) (hpl : (backTo pos (starEach es c.X.env)).any (·.1) = false := by rfl) : DE .o c (.Call (.Name x p) (e :: es) [] pos) (eN op fs) := by
  obtain ⟨r, pr, qr⟩ := ho
  obtain ⟨t, pt, qt⟩ := ha
  refine de_mk (pe_callB pr hg hm hv pt hn hdb he hpl) fun g H s σ τ Q o h => qt g H s σ τ _ o (Pg.seq h fun xs s1 g1 H1 _ e1 w1 h1 vs rs => ?_)
  obtain ⟨d, ed, k⟩ := h1.opt
  exact qr g1 H1 s1 vs xs d Q w1 (rs.extB (Ext.refl _ _)) ed fun v' g' H' e' w' r' => k g' H' e' w' v' (r'.ext (Ext.refl _ _) fun p q => e1.fresh q)
theorem de_callT {e : Expr} {es : List Expr} {x : Str} {id : String} {op : List D → Option D} {fs : AD} {p pos : Pos} (ho : CallD c (.type id) op) (ha : DA .b c (e :: es) fs) (hm : c.X.mg x = none) (hv : bootBuiltins x = some (.type id)) (hg : Gl c.X x := by rfl) (hn : x ≠ "__name__" := by decide) (hdb : (x == ("__debug__" : Str)) = false := by decide)
    (he : starEach (e :: es) c.X.env = (false, eval e c.X.env) :: starEach es c.X.env := by rfl) (hpl : (backTo pos (starEach es c.X.env)).any (·.1) = false := by rfl) : DE .o c (.Call (.Name x p) (e :: es) [] pos) (eN op fs) := by
  obtain ⟨r, pr, qr⟩ := ho
  obtain ⟨t, pt, qt⟩ := ha
  refine de_mk (pe_callTy pr hg hm hv pt hn hdb he hpl) fun g H s σ τ Q o h => qt g H s σ τ _ o (Pg.seq h fun xs s1 g1 H1 _ e1 w1 h1 vs rs => ?_)
  obtain ⟨d, ed, k⟩ := h1.opt
  exact qr g1 H1 s1 vs xs d Q w1 (rs.extB (Ext.refl _ _)) ed fun v' g' H' e' w' r' => k g' H' e' w' v' (r'.ext (Ext.refl _ _) fun p q => e1.fresh q)
/-- methods of texts and lists -/
def isTy : String → D → Bool
  | "str", .str _ => true
  | "list", .lst _ => true
  | _, _ => false
def eMt (T : String) (op : D → List D → Option D) (a : ED) (b : AD) : ED := fun τ s => (a τ s).bind fun x s => if isTy T x then (b τ s).bind fun xs => M.opt (op x xs) else .no
theorem isTy_ok {T : String} {g : Gh} {H : Hp} {s : Sto} {x : V} {d : D} (w : WF c.X.K c.T g H s) (r : RK .b c.X.K g H H x d) (h : isTy T d = true) : tyV c.X.K T x H := by
  unfold isTy at h
  split at h
  · have e := r.str; subst e; exact rfl
  · obtain ⟨a, xs, e, h1, _⟩ := r.lst w
    subst e
    exact .inl ⟨rfl, xs, SqL.of h1⟩
  · cases h
theorem de_mt {o e : Expr} {es : List Expr} {name : Str} {T id : String} {op : D → List D → Option D} {fa : ED} {fs : AD} {apos cpos : Pos} (pa : PlainAttrs T) (slot : Slot T name id) (hty : typeOf (.builtin id) = pure (.type "method_descriptor")) (hm : MtD c id op) (ho : DE .b c o fa) (ha : DA .b c (e :: es) fs)
    (hbase : attributeBase o name c.X.env (eval o c.X.env) = eval o c.X.env := by rfl)
    (hfew : ((backTo cpos (starEach (e :: es) c.X.env)).all (fun x => !x.1) && (backToKw cpos (keywordEach [] c.X.env)).all (fun x => x.1.isSome)
      && decide ((e :: es).length + ([] : List Keyword).length + (if ([] : List Keyword).isEmpty then 0 else 1) < 30)) = true := by rfl)
    (hline : (apos.endLine == cpos.line) = true := by rfl) (hs : starEach (e :: es) c.X.env = (false, eval e c.X.env) :: starEach es c.X.env := by rfl) (hplain : (backTo cpos (starEach es c.X.env)).any (·.1) = false := by rfl) :
    DE .o c (.Call (.Attribute o name apos) (e :: es) [] cpos) (eMt T op fa fs) := by
  obtain ⟨r, pr, qr⟩ := hm
  obtain ⟨t, pt, qt⟩ := ho
  obtain ⟨ts, ps, qs⟩ := ha
  refine de_mk (pe_bm pa slot hty pr pt ps hbase hfew hline hs hplain) fun g H s σ τ Q o h => qt g H s σ τ _ o (Pg.seq h fun x s1 g1 H1 _ e1 w1 h1 v rx => ?_)
  by_cases hT : isTy T x = true
  · rw [if_pos hT] at h1
    refine ⟨isTy_ok w1 (rx.extB (Ext.refl _ _)) hT, qs g1 H1 s1 σ τ _ (o.ext e1 w1) (Pg.seq h1 fun ys s2 g2 H2 _ e2 w2 h2 us ru => ?_)⟩
    obtain ⟨d, ed, k⟩ := h2.opt
    exact qr g2 H2 s2 v us x ys d Q w2 (rx.extB e2) (ru.extB (Ext.refl _ _)) ed fun v' g' H' e' w' r' => k g' H' e' w' v' (r'.ext (Ext.refl _ _) fun p q => (e1.trans e2).fresh q)
  · rw [if_neg hT] at h1
    exact h1.elim
end
end Mir

set_option Elab.async false
set_option linter.all false
set_option maxRecDepth 100000
set_option maxHeartbeats 4000000
/-! Mir, part C: calls of own defs, statements, defs. -/
namespace Mir
open PySem PySem.Spec PyProof.Rows L2
/-! ### a def's promise -/
abbrev FD := List D → M D
def spOf (K : PySem.W.Frag) (T : List (Addr × Str)) (F : FD) : Sp := fun vs H Q E => ∃ g s ds, WF K T g H s ∧ Reps K g vs ds ∧ match F ds s with
  | .ok d s' => ∀ v g' H', Ext g H g' H' → WF K T g' H' s' → Rep K g' v d → Q v H'
  | .exc cl s' => ∀ g' H', Ext g H g' H' → WF K T g' H' s' → E (clsV K cl) none H'
  | .no => False
structure Has (P : Program) (w : World) (K : PySem.W.Frag) (mg : Str → Option Value) (base : Heap) (T : List (Addr × Str)) (x : Str) (k : Nat) (F : FD) : Prop where
  ex : ∃ f fd ps, mg x = some (.ref f) ∧ PySem.W.keepIn K (.ref f) = true ∧ Binds K fd ps [] ∧ FnOk P w K mg base (L2N.CX P w) k f fd ps (spOf K T F)
abbrev HasX (c : Ctx) (x : Str) (k : Nat) (F : FD) : Prop := Has c.X.prog c.X.w c.X.K c.X.mg c.X.base c.T x k F
section
variable {c : Ctx}
def eCall (F : FD) (a : AD) : ED := fun τ s => (a τ s).bind F
theorem Pg.sp {g : Gh} {H : Hp} {s : Sto} {F : FD} {ds : List D} {vs : List V} {C : D → Sto → Gh → Hp → Prop} {Q : VK} (w : WF c.X.K c.T g H s) (r : Reps c.X.K g vs ds) (h : Pg c g H C (F ds s)) (k : ∀ d s' v g' H', Ext g H g' H' → WF c.X.K c.T g' H' s' → Rep c.X.K g' v d → C d s' g' H' → Q v H') : spOf c.X.K c.T F vs H Q c.W := by
  refine ⟨g, s, ds, w, r, ?_⟩
  cases q : F ds s with
  | ok d s' => rw [q] at h; exact fun v g' H' e' w' r' => k d s' v g' H' e' w' r' (h g' H' e' w')
  | exc cl s' => rw [q] at h; exact fun g' H' e' w' => h g' H' e' w'
  | no => rw [q] at h; exact h
theorem de_call {e : Expr} {es : List Expr} {x : Str} {j k : Nat} {F : FD} {fs : AD} {p pos : Pos} (h : HasX c x j F) (hr : Room k c.X.A) (hx : Passes (L2N.CX c.X.prog c.X.w) c.X c.W) (ha : DA .z c (e :: es) fs) (hjk : j ≤ k := by decide) (hg : Gl c.X x := by rfl) (hdb : (x == ("__debug__" : Str)) = false := by decide)
    (he : starEach (e :: es) c.X.env = (false, eval e c.X.env) :: starEach es c.X.env := by rfl) (hpl : (backTo pos (starEach es c.X.env)).any (·.1) = false := by rfl) : DE .z c (.Call (.Name x p) (e :: es) [] pos) (eCall F fs) := by
  obtain ⟨f, fd, ps, hm, hk, hb, hf⟩ := h.ex
  obtain ⟨t, pt, qt⟩ := ha
  refine de_mk (pe_call hf (hr.mono hjk) hg hm hk hb .nil hx pt hdb he hpl) fun g H s σ τ Q o h => qt g H s σ τ _ o (Pg.seq h fun xs s1 g1 H1 _ e1 w1 h1 vs rs => ?_)
  show spOf c.X.K c.T F (vs ++ []) H1 Q c.W
  rw [List.append_nil]
  exact h1.sp w1 rs.reps fun d s' v g' H' e' w' r' k => k v r'
theorem de_call0 {x : Str} {j k : Nat} {F : FD} {p pos : Pos} (h : HasX c x j F) (hr : Room k c.X.A) (hx : Passes (L2N.CX c.X.prog c.X.w) c.X c.W) (hjk : j ≤ k := by decide) (hg : Gl c.X x := by rfl) (hdb : (x == ("__debug__" : Str)) = false := by decide) : DE .z c (.Call (.Name x p) [] [] pos) (eCall F aNil) := by
  obtain ⟨f, fd, ps, hm, hk, hb, hf⟩ := h.ex
  refine de_mk (pe_call0 hf (hr.mono hjk) hg hm hk hb .nil hx hdb) fun g H s σ τ Q o h => ?_
  show spOf c.X.K c.T F ([] ++ []) H Q c.W
  exact Pg.sp (F := F) (ds := []) (C := fun d _ g' H' => ∀ v, Rep c.X.K g' v d → Q v H') o.wf .nil h fun d s' v g' H' e' w' r' k => k v r'
end
/-! ### statements -/
/-- a state within a def that was entered at (g0, H0) -/
structure SOk (c : Ctx) (g0 : Gh) (H0 : Hp) (g : Gh) (H : Hp) (s : Sto) (σ : St) (τ : Ev) : Prop where
  ok : Ok c g H s σ τ
  ext : Ext g0 H0 g H
  fr : ∀ i p d, c.O i = true → τ[i]? = some (some d) → σ[i]? = some (some (.ref p)) → H0 p = none
def Ps (c : Ctx) (g0 : Gh) (H0 : Hp) (g : Gh) (Dn : Ends) : R Fl → Prop
  | .ok (.nx τ') s' => ∀ g' H' σ', Le g g' → SOk c g0 H0 g' H' s' σ' τ' → Dn.nx σ' H'
  | .ok (.bk τ') s' => ∀ g' H' σ', Le g g' → SOk c g0 H0 g' H' s' σ' τ' → Dn.bk σ' H'
  | .ok (.ct τ') s' => ∀ g' H' σ', Le g g' → SOk c g0 H0 g' H' s' σ' τ' → Dn.ct σ' H'
  | .ok (.rt d) s' => ∀ g' H' v, Ext g0 H0 g' H' → WF c.X.K c.T g' H' s' → Rep c.X.K g' v d → Dn.rt v H'
  | .exc cl s' => ∀ g' H', Ext g0 H0 g' H' → WF c.X.K c.T g' H' s' → c.W (clsV c.X.K cl) none H'
  | .no => False
def DS (c : Ctx) (st : Stmt) (f : SD) : Prop := ∃ t : TS, PS c.X st t ∧ ∀ g0 H0 g H s σ τ Dn, SOk c g0 H0 g H s σ τ → Ps c g0 H0 g Dn (f τ s) → t Dn σ H
def DSs (c : Ctx) (sts : List Stmt) (f : SD) : Prop := ∃ t : TS, PSs c.X sts t ∧ ∀ g0 H0 g H s σ τ Dn, SOk c g0 H0 g H s σ τ → Ps c g0 H0 g Dn (f τ s) → t Dn σ H
section
variable {c : Ctx} {g0 g g' : Gh} {H0 H H' : Hp} {s : Sto} {σ : St} {τ : Ev} {Dn : Ends}
theorem Ps.mono {r : R Fl} (e : Le g g') (h : Ps c g0 H0 g Dn r) : Ps c g0 H0 g' Dn r := by
  cases r with
  | ok fl s' =>
    cases fl with
    | nx τ' => exact fun g2 H2 σ2 l o => h g2 H2 σ2 (e.trans l) o
    | bk τ' => exact fun g2 H2 σ2 l o => h g2 H2 σ2 (e.trans l) o
    | ct τ' => exact fun g2 H2 σ2 l o => h g2 H2 σ2 (e.trans l) o
    | rt d => exact h
  | exc cl s' => exact h
  | no => exact h
theorem SOk.ext' {s' : Sto} (o : SOk c g0 H0 g H s σ τ) (e : Ext g H g' H') (w : WF c.X.K c.T g' H' s') : SOk c g0 H0 g' H' s' σ τ := ⟨o.ok.ext e w, o.ext.trans e, o.fr⟩
/-- from an expression's end to a statement's -/
theorem Ps.seq {α : Type} {C' : α → Sto → Gh → Hp → Prop} {r : R α} {f : α → M Fl} (o : SOk c g0 H0 g H s σ τ) (h : Ps c g0 H0 g Dn (r.bind f))
    (k : ∀ a s1 g1 H1, r = .ok a s1 → Ext g H g1 H1 → WF c.X.K c.T g1 H1 s1 → SOk c g0 H0 g1 H1 s1 σ τ → Ps c g0 H0 g1 Dn (f a s1) → C' a s1 g1 H1) : Pg c g H C' r := by
  cases r with
  | ok a s1 => exact fun g1 H1 e1 w1 => k a s1 g1 H1 rfl e1 w1 (o.ext' e1 w1) (Ps.mono e1.le h)
  | exc cl s1 => exact fun g1 H1 e1 w1 => h g1 H1 (o.ext.trans e1) w1
  | no => exact h
/-- a slot is set to what is frozen -/
theorem SOk.set {v : V} {d : D} (o : SOk c g0 H0 g H s σ τ) (i : Nat) (hO : c.O i = false) (r : Rep c.X.K g v d) : SOk c g0 H0 g H s (σ.set i (some v)) (τ.set i (some d)) := by
  refine ⟨⟨o.ok.wf, ⟨by rw [List.length_set, List.length_set]; exact o.ok.sl.len, fun j d' hd => ?_, fun j k p hj hk hjk e1 e2 => ?_⟩⟩, o.ext, fun j p d' hj e1 e2 => ?_⟩
  · by_cases q : i = j
    · subst q
      have hlt : i < τ.length := by
        have := (List.getElem?_eq_some_iff.mp hd).1
        rwa [List.length_set] at this
      rw [List.getElem?_set_self hlt] at hd
      cases hd
      refine ⟨v, List.getElem?_set_self (by rw [o.ok.sl.len]; exact hlt), ?_⟩
      rw [hO, if_neg Bool.false_ne_true]
      exact r
    · rw [List.getElem?_set_ne q] at hd
      obtain ⟨u, h1, h2⟩ := o.ok.sl.at_ j d' hd
      exact ⟨u, by rw [List.getElem?_set_ne q]; exact h1, h2⟩
  · have n1 : i ≠ j := fun z => by subst z; rw [hO] at hj; cases hj
    have n2 : i ≠ k := fun z => by subst z; rw [hO] at hk; cases hk
    rw [List.getElem?_set_ne n1] at e1
    rw [List.getElem?_set_ne n2] at e2
    rw [List.getElem?_set_ne n1, List.getElem?_set_ne n2]
    exact o.ok.sl.ne j k p hj hk hjk e1 e2
  · have n1 : i ≠ j := fun z => by subst z; rw [hO] at hj; cases hj
    rw [List.getElem?_set_ne n1] at e1 e2
    exact o.fr j p d' hj e1 e2
/-- .. to what is new and one's own: H1 the heap ahead of its making -/
theorem SOk.setO {v : V} {d : D} {g1 : Gh} {H1 : Hp} (o1 : SOk c g0 H0 g1 H1 s σ τ) {s' : Sto} (e : Ext g1 H1 g H) (w : WF c.X.K c.T g H s') (i : Nat) (hO : c.O i = true) (r : Own c.X.K g H v d) {p : Addr} (hv : v = .ref p) (hp : H1 p = none) : SOk c g0 H0 g H s' (σ.set i (some v)) (τ.set i (some d)) := by
  have o := o1.ext' e w
  have away : ∀ j d', j ≠ i → c.O j = true → τ[j]? = some (some d') → σ[j]? ≠ some (some (.ref p)) := fun j d' hj hOj e1 e2 => by
    obtain ⟨u, h1, h2⟩ := o1.ok.sl.at_ j d' e1
    rw [hOj, if_pos rfl] at h2
    rw [e2] at h1
    cases h1
    cases h2 with
    | lst a1 a2 a3 a4 => rw [hp] at a3; cases a3
    | dct a1 a2 a3 l a4 => rw [hp] at a3; cases a3
  refine ⟨⟨o.ok.wf, ⟨by rw [List.length_set, List.length_set]; exact o.ok.sl.len, fun j d' hd => ?_, fun j k q hj hk hjk e1 e2 => ?_⟩⟩, o.ext, fun j q d' hj e1 e2 => ?_⟩
  · by_cases q : i = j
    · subst q
      have hlt : i < τ.length := by
        have := (List.getElem?_eq_some_iff.mp hd).1
        rwa [List.length_set] at this
      rw [List.getElem?_set_self hlt] at hd
      cases hd
      refine ⟨v, List.getElem?_set_self (by rw [o.ok.sl.len]; exact hlt), ?_⟩
      rw [hO, if_pos rfl]
      exact r
    · rw [List.getElem?_set_ne q] at hd
      obtain ⟨u, h1, h2⟩ := o.ok.sl.at_ j d' hd
      exact ⟨u, by rw [List.getElem?_set_ne q]; exact h1, h2⟩
  · have hlen : ∀ m, (σ.set i (some v))[m]? = some (some (.ref q)) → m < τ.length := fun m z => by
      have := (List.getElem?_eq_some_iff.mp z).1
      rw [List.length_set, o.ok.sl.len] at this
      exact this
    by_cases n1 : i = j
    · subst n1
      have n2 : i ≠ k := hjk
      have li := hlen i e1
      rw [List.getElem?_set_self (by rw [o.ok.sl.len]; exact li)] at e1
      have e1 := Option.some.inj (Option.some.inj e1)
      rw [hv] at e1
      cases e1
      rw [List.getElem?_set_ne n2] at e2
      refine .inr ?_
      rw [List.getElem?_set_ne n2]
      have lk : k < τ.length := hlen k (by rw [List.getElem?_set_ne n2]; exact e2)
      cases z : τ[k]? with
      | none => rw [List.getElem?_eq_getElem lk] at z; cases z
      | some od =>
        cases od with
        | none => rfl
        | some d' => exact absurd e2 (away k d' (Ne.symm n2) hk z)
    · by_cases n2 : i = k
      · subst n2
        have li := hlen i e2
        rw [List.getElem?_set_self (by rw [o.ok.sl.len]; exact li)] at e2
        have e2 := Option.some.inj (Option.some.inj e2)
        rw [hv] at e2
        cases e2
        rw [List.getElem?_set_ne n1] at e1
        refine .inl ?_
        rw [List.getElem?_set_ne n1]
        have lk : j < τ.length := hlen j (by rw [List.getElem?_set_ne n1]; exact e1)
        cases z : τ[j]? with
        | none => rw [List.getElem?_eq_getElem lk] at z; cases z
        | some od =>
          cases od with
          | none => rfl
          | some d' => exact absurd e1 (away j d' (Ne.symm n1) hj z)
      · rw [List.getElem?_set_ne n1] at e1
        rw [List.getElem?_set_ne n2] at e2
        rw [List.getElem?_set_ne n1, List.getElem?_set_ne n2]
        exact o.ok.sl.ne j k q hj hk hjk e1 e2
  · by_cases n1 : i = j
    · subst n1
      have li : i < σ.length := by
        have := (List.getElem?_eq_some_iff.mp e2).1
        rwa [List.length_set] at this
      rw [List.getElem?_set_self li] at e2
      have e2 := Option.some.inj (Option.some.inj e2)
      rw [hv] at e2
      cases e2
      exact o1.ext.fresh hp
    · rw [List.getElem?_set_ne n1] at e1 e2
      exact o.fr j q d' hj e1 e2
/-- one's own list (dict) in slot i is changed -/
theorem SOk.mut {p : Addr} {u u' : HO} {d d' : D} (o : SOk c g0 H0 g H s σ τ) (i : Nat) (hO : c.O i = true) (hd : τ[i]? = some (some d)) (hs : σ[i]? = some (some (.ref p))) (hu : H p = some u) (hl : (∃ xs, u = .lst xs) ∨ (∃ kvs, u = .dK kvs))
    (hr : Own c.X.K g (upd H p u') (.ref p) d') : SOk c g0 H0 g (upd H p u') s σ (τ.set i (some d')) := by
  have hg : g.G p = none ∧ ∀ n, g.r n ≠ some p := by
    cases hr with
    | lst a1 a2 a3 a4 => exact ⟨a1, a2⟩
    | dct a1 a2 a3 l a4 => exact ⟨a1, a2⟩
  have hp0 : H0 p = none := o.fr i p d hO hd hs
  refine ⟨⟨o.ok.wf.mut hu hl hg.1 hg.2, ⟨by rw [List.length_set]; exact o.ok.sl.len, fun j e hd' => ?_, fun j k q hj hk hjk e1 e2 => ?_⟩⟩, o.ext.mut hp0, fun j q e hj e1 e2 => ?_⟩
  · by_cases q : i = j
    · subst q
      have hlt : i < τ.length := (List.getElem?_eq_some_iff.mp hd).1
      rw [List.getElem?_set_self hlt] at hd'
      cases hd'
      refine ⟨_, hs, ?_⟩
      rw [hO, if_pos rfl]
      exact hr
    · rw [List.getElem?_set_ne q] at hd'
      obtain ⟨v, h1, h2⟩ := o.ok.sl.at_ j e hd'
      refine ⟨v, h1, ?_⟩
      by_cases hOj : c.O j = true
      · rw [if_pos hOj] at h2 ⊢
        have ne : v ≠ .ref p := fun z => by
          subst z
          rcases o.ok.sl.ne i j p hO hOj q hs h1 with z | z
          · rw [hd] at z; cases z
          · rw [hd'] at z; cases z
        cases h2 with
        | @lst a xs ds a1 a2 a3 a4 => exact .lst a1 a2 (by rw [upd_ne (fun z => ne (by rw [z]))]; exact a3) a4
        | @dct a ks xs ds a1 a2 a3 l a4 => exact .dct a1 a2 (by rw [upd_ne (fun z => ne (by rw [z]))]; exact a3) l a4
      · rw [if_neg hOj] at h2 ⊢
        exact h2
  · have lf : ∀ m, τ[m]? = some none → (τ.set i (some d'))[m]? = some none := fun m z => by
      have ne : i ≠ m := fun w => by subst w; rw [hd] at z; cases z
      rw [List.getElem?_set_ne ne]; exact z
    rcases o.ok.sl.ne j k q hj hk hjk e1 e2 with z | z
    · exact .inl (lf j z)
    · exact .inr (lf k z)
  · by_cases n : i = j
    · subst n
      exact o.fr i q d hO hd e2
    · rw [List.getElem?_set_ne n] at e1
      exact o.fr j q e hj e1 e2
/-! ### blocks -/
def sNext : SD := fun τ => M.ret (.nx τ)
def sSeq (a b : SD) : SD := fun τ s => (a τ s).bind fun fl => match fl with
  | .nx τ' => b τ'
  | o => M.ret o
theorem dss_nil : DSs c [] sNext := ⟨tNext, pss_nil, fun g0 H0 g H s σ τ Dn o h => h g H σ (Le.refl g) o⟩
theorem dss_one {st : Stmt} {f : SD} (h : DS c st f) : DSs c [st] f := by
  obtain ⟨t, p, q⟩ := h
  exact ⟨t, pss_one p, q⟩
theorem dss_cons {st : Stmt} {sts : List Stmt} {a b : SD} (ha : DS c st a) (hb : DSs c sts b) : DSs c (st :: sts) (sSeq a b) := by
  obtain ⟨t, p, q⟩ := ha
  obtain ⟨u, p', q'⟩ := hb
  refine ⟨tSeq t u, pss_cons p p', fun g0 H0 g H s σ τ Dn o h => q g0 H0 g H s σ τ _ o ?_⟩
  unfold sSeq at h
  cases r : a τ s with
  | ok fl s1 =>
    rw [r] at h
    cases fl with
    | nx τ1 => exact fun g1 H1 σ1 l o1 => q' g0 H0 g1 H1 s1 σ1 τ1 Dn o1 (Ps.mono l h)
    | bk τ1 => exact h
    | ct τ1 => exact h
    | rt d => exact h
  | exc cl s1 => rw [r] at h; exact h
  | no => rw [r] at h; exact h
theorem ds_pass {pos : Pos} : DS c (.Pass pos) sNext := ⟨tNext, ps_pass, fun g0 H0 g H s σ τ Dn o h => h g H σ (Le.refl g) o⟩
def sBreak : SD := fun τ => M.ret (.bk τ)
def sCont : SD := fun τ => M.ret (.ct τ)
theorem ds_break {pos : Pos} : DS c (.Break pos) sBreak := ⟨tBreak, ps_break, fun g0 H0 g H s σ τ Dn o h => h g H σ (Le.refl g) o⟩
theorem ds_continue {pos : Pos} : DS c (.Continue pos) sCont := ⟨tCont, ps_continue, fun g0 H0 g H s σ τ Dn o h => h g H σ (Le.refl g) o⟩
def sExpr (f : ED) : SD := fun τ s => (f τ s).bind fun _ => M.ret (.nx τ)
theorem ds_expr {k : Kd} {e : Expr} {f : ED} {pos : Pos} (he : DE k c e f) (hs : swapsWith e none pos.line c.X.env = pure false := by rfl) : DS c (.Expr e pos) (sExpr f) := by
  obtain ⟨t, p, q⟩ := he
  exact ⟨tDrop t, ps_expr p hs, fun g0 H0 g H s σ τ Dn o h => q g H s σ τ _ o.ok (Ps.seq o h fun x s1 g1 H1 _ e1 w1 o1 h1 v rx => h1 g1 H1 σ (Le.refl _) o1)⟩
def sSet (i : Nat) (f : ED) : SD := fun τ s => (f τ s).bind fun d => M.ret (.nx (τ.set i (some d)))
theorem evs_set {i : Nat} {f : ED} {t : TE} (hO : c.O i = false) (q : Evs .z c t f) : ∀ g0 H0 g H s σ τ Dn, SOk c g0 H0 g H s σ τ → Ps c g0 H0 g Dn (sSet i f τ s) → tAsg t (gName i) Dn σ H := fun g0 H0 g H s σ τ Dn o h =>
  q g H s σ τ _ o.ok (Ps.seq o h fun x s1 g1 H1 _ e1 w1 o1 h1 v rx => h1 g1 H1 _ (Le.refl _) (o1.set i hO rx))
theorem ds_set {i : Nat} {x : Str} {e : Expr} {f : ED} {pos pos' : Pos} (hN : c.X.N.Nodup) (he : DE .z c e f) (hO : c.O i = false := by rfl) (hi : c.X.N[i]? = some x := by rfl) (hx : Loc c.X.env.scope x := by first | exact Or.inl rfl | exact Or.inr rfl)
    (hs : swapsWith e (some (.Name x pos')) pos.line c.X.env = pure false := by rfl) (hf : c.X.fn x = true ∨ c.X.env.scope.names.lookup x = some .local := by first | exact .inl rfl | exact .inr rfl) : DS c (.Assign [.Name x pos'] e pos) (sSet i f) := by
  obtain ⟨t, p, q⟩ := he
  exact ⟨_, ps_set hN hi hx p hs hf, evs_set hO q⟩
def sSetO (i : Nat) (f : ED) : SD := fun τ s => (f τ s).bind fun d => if isCt d then M.ret (.nx (τ.set i (some d))) else fun _ => .no
theorem evs_setO {i : Nat} {f : ED} {t : TE} (hO : c.O i = true) (q : Evs .o c t f) : ∀ g0 H0 g H s σ τ Dn, SOk c g0 H0 g H s σ τ → Ps c g0 H0 g Dn (sSetO i f τ s) → tAsg t (gName i) Dn σ H := fun g0 H0 g H s σ τ Dn o h =>
  q g H s σ τ _ o.ok (Ps.seq o h fun x s1 g1 H1 _ e1 w1 o1 h1 v rx => by
    by_cases hc : isCt x = true
    · rw [if_pos hc] at h1
      rcases rx with ⟨z, _⟩ | ⟨r, pp, hv, hp⟩
      · rw [hc] at z; cases z
      · exact h1 g1 H1 _ (Le.refl _) (o.setO e1 w1 i hO r hv hp)
    · rw [if_neg hc] at h1
      exact h1.elim)
theorem ds_setO {i : Nat} {x : Str} {e : Expr} {f : ED} {pos pos' : Pos} (hN : c.X.N.Nodup) (he : DE .o c e f) (hO : c.O i = true := by rfl) (hi : c.X.N[i]? = some x := by rfl) (hx : Loc c.X.env.scope x := by first | exact Or.inl rfl | exact Or.inr rfl)
    (hs : swapsWith e (some (.Name x pos')) pos.line c.X.env = pure false := by rfl) (hf : c.X.fn x = true ∨ c.X.env.scope.names.lookup x = some .local := by first | exact .inl rfl | exact .inr rfl) : DS c (.Assign [.Name x pos'] e pos) (sSetO i f) := by
  obtain ⟨t, p, q⟩ := he
  exact ⟨_, ps_set hN hi hx p hs hf, evs_setO hO q⟩
def sIf (t : TD) (a b : SD) : SD := fun τ s => (t τ s).bind fun x => match x with
  | true => a τ
  | false => b τ
theorem ds_if {e : Expr} {a b : List Stmt} {ft : TD} {fa fb : SD} {pos : Pos} (ht : DT c e ft) (ha : DSs c a fa) (hb : DSs c b fb) : DS c (.If e a b pos) (sIf ft fa fb) := by
  obtain ⟨t, p, q⟩ := ht
  obtain ⟨ta, pa, qa⟩ := ha
  obtain ⟨tb, pb, qb⟩ := hb
  refine ⟨tIfS t ta tb, ps_if p pa pb, fun g0 H0 g H s σ τ Dn o h => q g H s σ τ _ o.ok (Ps.seq o h fun x s1 g1 H1 _ e1 w1 o1 h1 => ?_)⟩
  cases x with
  | true => rw [if_pos rfl]; exact qa g0 H0 g1 H1 s1 σ τ Dn o1 h1
  | false => rw [if_neg Bool.false_ne_true]; exact qb g0 H0 g1 H1 s1 σ τ Dn o1 h1
end
end Mir

set_option Elab.async false
set_option linter.all false
set_option maxRecDepth 100000
set_option maxHeartbeats 4000000
/-! Mir, part D: return, raise, loops, stores, defs. -/
namespace Mir
open PySem PySem.Spec PyProof.Rows L2
abbrev Ctx.own (c : Ctx) (O : Nat → Bool) : Ctx := { c with O := O }
section
variable {c : Ctx} {g0 g g' : Gh} {H0 H H' : Hp} {s : Sto} {σ : St} {τ : Ev} {Dn : Ends}
/-! ### one's own things are frozen -/
/-- slot i -/
theorem SOk.freeze1 (o : SOk c g0 H0 g H s σ τ) (i : Nat) : ∃ g', Le g g' ∧ SOk (c.own fun j => if j = i then false else c.O j) g0 H0 g' H s σ τ := by
  have weak : (∀ d v, c.O i = true → τ[i]? = some (some d) → σ[i]? = some (some v) → Rep c.X.K g v d) → SOk (c.own fun j => if j = i then false else c.O j) g0 H0 g H s σ τ := fun hh => by
    refine ⟨⟨o.ok.wf, ⟨o.ok.sl.len, fun j d hd => ?_, fun j k p hj hk hjk e1 e2 => ?_⟩⟩, o.ext, fun j p d hj e1 e2 => ?_⟩
    · obtain ⟨v, h1, h2⟩ := o.ok.sl.at_ j d hd
      refine ⟨v, h1, ?_⟩
      show if (if j = i then false else c.O j) = true then _ else _
      by_cases q : j = i
      · subst q
        rw [if_pos rfl, if_neg Bool.false_ne_true]
        by_cases hO : c.O j = true
        · exact hh d v hO hd h1
        · rw [if_neg hO] at h2; exact h2
      · rw [if_neg q]; exact h2
    · have hj : (if j = i then false else c.O j) = true := hj
      have hk : (if k = i then false else c.O k) = true := hk
      have nj : j ≠ i := fun q => by rw [if_pos q] at hj; cases hj
      have nk : k ≠ i := fun q => by rw [if_pos q] at hk; cases hk
      rw [if_neg nj] at hj
      rw [if_neg nk] at hk
      exact o.ok.sl.ne j k p hj hk hjk e1 e2
    · have hj : (if j = i then false else c.O j) = true := hj
      have nj : j ≠ i := fun q => by rw [if_pos q] at hj; cases hj
      rw [if_neg nj] at hj
      exact o.fr j p d hj e1 e2
  cases q : τ[i]? with
  | none => exact ⟨g, Le.refl g, weak fun d v _ z => by rw [q] at z; cases z⟩
  | some od =>
    cases od with
    | none => exact ⟨g, Le.refl g, weak fun d v _ z => by rw [q] at z; cases z⟩
    | some d =>
      by_cases hO : c.O i = true
      · obtain ⟨v, h1, h2⟩ := o.ok.sl.at_ i d q
        rw [hO, if_pos rfl] at h2
        -- the address, its object
        obtain ⟨p, u, rfl, hg, hr, hu, ht⟩ : ∃ p u, v = .ref p ∧ g.G p = none ∧ (∀ n, g.r n ≠ some p) ∧ H p = some u ∧ ∀ ps, u ≠ .tbl ps := by
          cases h2 with
          | lst a1 a2 a3 a4 => exact ⟨_, _, rfl, a1, a2, a3, fun ps => by simp⟩
          | dct a1 a2 a3 l a4 => exact ⟨_, _, rfl, a1, a2, a3, fun ps => by simp⟩
        have le : Le g (g.frz p u) := Gh.frz_le (.inl hg)
        have rep : Rep c.X.K (g.frz p u) (.ref p) d := by
          cases h2 with
          | lst a1 a2 a3 a4 => rw [hu] at a3; cases a3; exact .lst Gh.frz_at (a4.mono le)
          | dct a1 a2 a3 l a4 => rw [hu] at a3; cases a3; exact .dct Gh.frz_at l (a4.mono le)
        have hp0 : H0 p = none := o.fr i p d hO q h1
        refine ⟨_, le, ⟨o.ok.wf.freeze hu hr ht, ⟨o.ok.sl.len, fun j d' hd => ?_, fun j k p hj hk hjk e1 e2 => ?_⟩⟩, o.ext.freeze hp0 (.inl hg), fun j p d hj e1 e2 => ?_⟩
        · obtain ⟨v, k1, k2⟩ := o.ok.sl.at_ j d' hd
          refine ⟨v, k1, ?_⟩
          show if (if j = i then false else c.O j) = true then _ else _
          by_cases z : j = i
          · subst z
            rw [if_pos rfl, if_neg Bool.false_ne_true]
            rw [q] at hd; cases hd
            rw [h1] at k1; cases k1
            exact rep
          · rw [if_neg z]
            by_cases hOj : c.O j = true
            · rw [if_pos hOj] at k2 ⊢
              have ne : v ≠ .ref p := fun w => by
                subst w
                rcases o.ok.sl.ne i j p hO hOj (Ne.symm z) h1 k1 with w | w
                · rw [q] at w; cases w
                · rw [hd] at w; cases w
              cases k2 with
              | @lst a xs ds a1 a2 a3 a4 => exact .lst (by show upd g.G p u a = none; rw [upd_ne (fun w => ne (by rw [w]))]; exact a1) a2 a3 (a4.mono le)
              | @dct a ks xs ds a1 a2 a3 l a4 => exact .dct (by show upd g.G p u a = none; rw [upd_ne (fun w => ne (by rw [w]))]; exact a1) a2 a3 l (a4.mono le)
            · rw [if_neg hOj] at k2 ⊢
              exact k2.mono le
        · have hj : (if j = i then false else c.O j) = true := hj
          have hk : (if k = i then false else c.O k) = true := hk
          have nj : j ≠ i := fun q => by rw [if_pos q] at hj; cases hj
          have nk : k ≠ i := fun q => by rw [if_pos q] at hk; cases hk
          rw [if_neg nj] at hj
          rw [if_neg nk] at hk
          exact o.ok.sl.ne j k p hj hk hjk e1 e2
        · have hj : (if j = i then false else c.O j) = true := hj
          have nj : j ≠ i := fun q => by rw [if_pos q] at hj; cases hj
          rw [if_neg nj] at hj
          exact o.fr j p d hj e1 e2
      · obtain ⟨v, h1, h2⟩ := o.ok.sl.at_ i d q
        exact ⟨g, Le.refl g, weak fun d v z => absurd z hO⟩
/-- the first n slots -/
theorem SOk.freezeN (o : SOk c g0 H0 g H s σ τ) : ∀ n, ∃ g', Le g g' ∧ SOk (c.own fun j => if j < n then false else c.O j) g0 H0 g' H s σ τ
  | 0 => ⟨g, Le.refl g, by
    have e : (c.own fun j => if j < 0 then false else c.O j) = c := by
      show ({ c with O := _ } : Ctx) = c
      have : (fun j => if j < 0 then false else c.O j) = c.O := funext fun j => by rw [if_neg (Nat.not_lt_zero j)]
      rw [this]
    rw [e]; exact o⟩
  | n + 1 => by
    obtain ⟨g1, l1, o1⟩ := SOk.freezeN o n
    obtain ⟨g2, l2, o2⟩ := o1.freeze1 n
    refine ⟨g2, l1.trans l2, ?_⟩
    have e : (fun j => if j = n then false else (if j < n then false else c.O j)) = fun j => if j < n + 1 then false else c.O j := funext fun j => by
      by_cases h1 : j = n
      · subst h1
        rw [if_pos rfl, if_pos (Nat.lt_succ_self _)]
      · by_cases h2 : j < n
        · rw [if_neg h1, if_pos h2, if_pos (Nat.lt_succ_of_lt h2)]
        · rw [if_neg h1, if_neg h2, if_neg (by omega)]
    have e2 : ((c.own fun j => if j < n then false else c.O j).own fun j => if j = n then false else (c.own fun j => if j < n then false else c.O j).O j) = c.own fun j => if j < n + 1 then false else c.O j := by
      show ({ c with O := _ } : Ctx) = { c with O := _ }
      rw [← e]
    rw [e2] at o2
    exact o2
def noO : Nat → Bool := fun _ => false
theorem SOk.freeze (o : SOk c g0 H0 g H s σ τ) : ∃ g', Le g g' ∧ SOk (c.own noO) g0 H0 g' H s σ τ := by
  obtain ⟨g1, l1, o1⟩ := o.freezeN τ.length
  refine ⟨g1, l1, ⟨o1.ok.wf, ⟨o1.ok.sl.len, fun j d hd => ?_, fun j k p hj => nomatch hj⟩⟩, o1.ext, fun j p d hj => nomatch hj⟩
  obtain ⟨v, h1, h2⟩ := o1.ok.sl.at_ j d hd
  refine ⟨v, h1, ?_⟩
  have hlt : j < τ.length := (List.getElem?_eq_some_iff.mp hd).1
  have h2 : if (if j < τ.length then false else c.O j) = true then Own c.X.K g1 H v d else Rep c.X.K g1 v d := h2
  rw [if_pos hlt, if_neg Bool.false_ne_true] at h2
  show if false = true then _ else _
  rw [if_neg Bool.false_ne_true]
  exact h2
/-- slot i is frozen from here on -/
theorem dss_freeze (i : Nat) {sts : List Stmt} {f : SD} (h : DSs (c.own fun j => if j = i then false else c.O j) sts f) (hb : ∀ τ s τ' s', f τ s ≠ .ok (.bk τ') s' ∧ f τ s ≠ .ok (.ct τ') s' ∧ f τ s ≠ .ok (.nx τ') s') : DSs c sts f := by
  obtain ⟨t, p, q⟩ := h
  refine ⟨t, p, fun g0 H0 g H s σ τ Dn o h => ?_⟩
  obtain ⟨g1, l1, o1⟩ := o.freeze1 i
  refine q g0 H0 g1 H s σ τ Dn o1 ?_
  cases r : f τ s with
  | ok fl s1 =>
    rw [r] at h
    cases fl with
    | nx τ1 => exact absurd r (hb τ s τ1 s1).2.2
    | bk τ1 => exact absurd r (hb τ s τ1 s1).1
    | ct τ1 => exact absurd r (hb τ s τ1 s1).2.1
    | rt d => exact h
  | exc cl s1 => rw [r] at h; exact h
  | no => rw [r] at h; exact h
def sRet (f : ED) : SD := fun τ s => (f τ s).bind fun d => M.ret (.rt d)
theorem ds_ret {e : Expr} {f : ED} {pos : Pos} (he : DE .z (c.own noO) e f) : DS c (.Return (some e) pos) (sRet f) := by
  obtain ⟨t, p, q⟩ := he
  refine ⟨tRet t, ps_ret p, fun g0 H0 g H s σ τ Dn o h => ?_⟩
  obtain ⟨g1, l1, o1⟩ := o.freeze
  refine q g1 H s σ τ _ o1.ok ?_
  unfold sRet at h
  cases r : f τ s with
  | ok d s1 => rw [r] at h; exact fun g2 H2 e2 w2 v rv => h g2 H2 v (o1.ext.trans e2) w2 rv
  | exc cl s1 => rw [r] at h; exact fun g2 H2 e2 w2 => h g2 H2 (o1.ext.trans e2) w2
  | no => rw [r] at h; exact h
def sRetN : SD := fun _ => M.ret (.rt .non)
theorem ds_retN {pos : Pos} : DS c (.Return none pos) sRetN := ⟨tRetN, ps_retN, fun g0 H0 g H s σ τ Dn o h => h g H .non o.ext o.ok.wf .non⟩
/-! ### raise -/
structure ExcF (K : PySem.W.Frag) (mg : Str → Option Value) (x : Str) : Prop where
  g : mg x = some (.ref (He.ga K x))
  e : PySem.W.excIn K (He.ga K x) He.veBase "ValueError.__new__" = true
  k : PySem.W.keepIn K (.ref (He.ga K x)) = true
  b : PySem.W.subIn K (.ref (He.ga K x)) (.type "BaseException") = some true
  t : PySem.W.typeIn K (.ref (He.ga K x)) = some (.type "type")
def sRaise (x : Str) : SD := fun _ s => .exc x s
theorem ds_raise {x m : Str} {j : Nat} {p p2 p3 pos : Pos} (F : ExcF c.X.K c.X.mg x) (tk : L2N.Takes c.X fun cls d _ H => c.W cls d H) (hc : c.X.calm = true := by rfl) (hg : Gl c.X x := by rfl) (hdb : (x == ("__debug__" : Str)) = false := by decide) :
    DS c (.Raise (some (.Call (.Name x p) [.Constant (.str m) j p2] [] p3)) none pos) (sRaise x) :=
  ⟨_, L2N.ps_raise hc tk (L2N.pmk_own PySem.F.excBase_ValueError F.e F.g F.k (raises_own F.b F.t) hg hdb), fun g0 H0 g H s σ τ Dn o h => h g H o.ext o.ok.wf⟩
/-! ### while -/
def loopW (t : TD) (b : SD) : Nat → SD
  | 0 => fun _ _ => .no
  | n + 1 => fun τ s => (t τ s).bind fun x => match x with
    | true => fun s => (b τ s).bind fun fl => match fl with
      | .nx τ' => loopW t b n τ'
      | .ct τ' => loopW t b n τ'
      | .bk τ' => M.ret (.nx τ')
      | .rt d => M.ret (.rt d)
    | false => M.ret (.nx τ)
def fuel : Nat := 1000000
def sWhile (t : TD) (b : SD) : SD := loopW t b fuel
theorem ds_while {e : Expr} {body : List Stmt} {ft : TD} {fb : SD} {pos : Pos} (hp : PassesOwn (model c.X.prog c.X.w) c.X.A c.X.env c.X.xe) (ht : DT c e ft) (hb : DSs c body fb) : DS c (.While e body [] pos) (sWhile ft fb) := by
  obtain ⟨t, p, q⟩ := ht
  obtain ⟨u, p', q'⟩ := hb
  refine ⟨tWhile t u, ps_while hp p p', fun g0 H0 g H s σ τ Dn o h => ⟨fun m σ H => ∃ g s τ, SOk c g0 H0 g H s σ τ ∧ Ps c g0 H0 g Dn (loopW ft fb m τ s), ⟨fuel, g, s, τ, o, h⟩, ?_⟩⟩
  rintro m σ1 H1 ⟨g1, s1, τ1, o1, h1⟩
  cases m with
  | zero => exact h1.elim
  | succ n =>
    unfold loopW at h1
    refine q g1 H1 s1 σ1 τ1 _ o1.ok (Ps.seq o1 h1 fun x s2 g2 H2 _ e2 w2 o2 h2 => ?_)
    cases x with
    | false => rw [if_neg Bool.false_ne_true]; exact h2 g2 H2 σ1 (Le.refl _) o2
    | true =>
      rw [if_pos rfl]
      refine ⟨fun σ' H' => ∃ g s τ, SOk c g0 H0 g H' s σ' τ ∧ Ps c g0 H0 g Dn (loopW ft fb n τ s), fun σ' H' hh => ⟨n, Nat.lt_succ_self n, hh⟩, q' g0 H0 g2 H2 s2 σ1 τ1 _ o2 ?_⟩
      have h2 : Ps c g0 H0 g2 Dn ((fb τ1 s2).bind fun fl => match fl with
        | .nx τ' => loopW ft fb n τ'
        | .ct τ' => loopW ft fb n τ'
        | .bk τ' => M.ret (.nx τ')
        | .rt d => M.ret (.rt d)) := h2
      cases r : fb τ1 s2 with
      | ok fl s3 =>
        rw [r] at h2
        cases fl with
        | nx τ3 => exact fun g3 H3 σ3 l3 o3 => ⟨g3, s3, τ3, o3, Ps.mono l3 h2⟩
        | ct τ3 => exact fun g3 H3 σ3 l3 o3 => ⟨g3, s3, τ3, o3, Ps.mono l3 h2⟩
        | bk τ3 => exact h2
        | rt d => exact h2
      | exc cl s3 => rw [r] at h2; exact h2
      | no => rw [r] at h2; exact h2
/-! ### targets -/
/-- frozen values are written into the slots ws -/
inductive Wr (K : PySem.W.Frag) (g : Gh) (ws : List Nat) : St → Ev → St → Ev → Prop
  | nil {σ : St} {τ : Ev} : Wr K g ws σ τ σ τ
  | set {σ σ' : St} {τ τ' : Ev} {i : Nat} {v : V} {d : D} : i ∈ ws → Rep K g v d → Wr K g ws (σ.set i (some v)) (τ.set i (some d)) σ' τ' → Wr K g ws σ τ σ' τ'
theorem Wr.trans {K : PySem.W.Frag} {ws : List Nat} {σ σ1 σ2 : St} {τ τ1 τ2 : Ev} (a : Wr K g ws σ τ σ1 τ1) (b : Wr K g ws σ1 τ1 σ2 τ2) : Wr K g ws σ τ σ2 τ2 := by
  induction a with
  | nil => exact b
  | set hi r _ ih => exact .set hi r (ih b)
theorem Wr.imp {K : PySem.W.Frag} {ws ws' : List Nat} {σ σ1 : St} {τ τ1 : Ev} (hw : ∀ i ∈ ws, i ∈ ws') (a : Wr K g ws σ τ σ1 τ1) : Wr K g ws' σ τ σ1 τ1 := by
  induction a with
  | nil => exact .nil
  | set hi r _ ih => exact .set (hw _ hi) r ih
theorem SOk.wr {ws : List Nat} {σ' : St} {τ' : Ev} (o : SOk c g0 H0 g H s σ τ) (hO : ∀ i ∈ ws, c.O i = false) (a : Wr c.X.K g ws σ τ σ' τ') : SOk c g0 H0 g H s σ' τ' := by
  induction a with
  | nil => exact o
  | set hi r _ ih => exact ih (o.set _ (hO _ hi) r)
def DG (c : Ctx) (tg : Expr) (ws : List Nat) (f : D → Ev → Option Ev) : Prop := ∃ t : TG, PG c.X tg t ∧ ∀ g H s σ τ v d τ' Q, WF c.X.K c.T g H s → Rep c.X.K g v d → f d τ = some τ' → (∀ σ', Wr c.X.K g ws σ τ σ' τ' → Q σ' H) → t v σ H Q
def DGs (c : Ctx) (tgs : List Expr) (ws : List Nat) (f : List D → Ev → Option Ev) : Prop := ∃ t : TGs, PGs c.X tgs t ∧ ∀ g H s σ τ vs ds τ' Q, WF c.X.K c.T g H s → Reps c.X.K g vs ds → f ds τ = some τ' → (∀ σ', Wr c.X.K g ws σ τ σ' τ' → Q σ' H) → t vs σ H Q
def gNm (i : Nat) : D → Ev → Option Ev := fun d τ => some (τ.set i (some d))
def gsNil : List D → Ev → Option Ev
  | [], τ => some τ
  | _, _ => none
def gsCons (f : D → Ev → Option Ev) (r : List D → Ev → Option Ev) : List D → Ev → Option Ev
  | d :: ds, τ => (f d τ).bind (r ds)
  | [], _ => none
def gTp (n : Nat) (f : List D → Ev → Option Ev) : D → Ev → Option Ev
  | .tup ds, τ => if ds.length = n then f ds τ else none
  | _, _ => none
theorem dg_name {i : Nat} {x : Str} {pos : Pos} (hN : c.X.N.Nodup) (hi : c.X.N[i]? = some x := by rfl) (hx : Loc c.X.env.scope x := by first | exact Or.inl rfl | exact Or.inr rfl) (hf : c.X.fn x = true ∨ c.X.env.scope.names.lookup x = some .local := by first | exact .inl rfl | exact .inr rfl) :
    DG c (.Name x pos) [i] (gNm i) := ⟨gName i, pg_name hN hi hx hf, fun g H s σ τ v d τ' Q w r e k => by
  cases e
  exact k _ (.set (List.mem_singleton.mpr rfl) r .nil)⟩
theorem dgs_nil : DGs c [] [] gsNil := ⟨gNil, pgs_nil, fun g H s σ τ vs ds τ' Q w r e k => by
  cases r with
  | nil => cases e; exact ⟨rfl, k _ .nil⟩
  | cons _ _ => cases e⟩
theorem dgs_cons {e : Expr} {es : List Expr} {ws ws' : List Nat} {f : D → Ev → Option Ev} {r : List D → Ev → Option Ev} (h : DG c e ws f) (hr : DGs c es ws' r) (hs : (assignEach (e :: es) c.X.env).map (·.2) = assign e c.X.env :: (assignEach es c.X.env).map (·.2) := by rfl) : DGs c (e :: es) (ws ++ ws') (gsCons f r) := by
  obtain ⟨t, p, q⟩ := h
  obtain ⟨u, p', q'⟩ := hr
  refine ⟨gCons t u, pgs_cons p p' hs, fun g H s σ τ vs ds τ' Q w rr e k => ?_⟩
  cases rr with
  | nil => cases e
  | @cons v vs d ds rv rs =>
    have e : (f d τ).bind (r ds) = some τ' := e
    cases z : f d τ with
    | none => rw [z] at e; cases e
    | some τ1 =>
      rw [z] at e
      exact ⟨v, vs, rfl, q g H s σ τ v d τ1 _ w rv z fun σ1 a => q' g H s σ1 τ1 vs ds τ' Q w rs e fun σ2 b => k σ2 ((a.imp fun i hi => List.mem_append_left _ hi).trans (b.imp fun i hi => List.mem_append_right _ hi))⟩
theorem dg_tup {es : List Expr} {k : Nat} {n : Nat} {ws : List Nat} {f : List D → Ev → Option Ev} {pos : Pos} (h : DGs c es ws f) (hc : c.X.calm = true := by rfl) (hn : (assignEach es c.X.env).length = n := by rfl) (hst : (assignEach es c.X.env).findIdx? (·.1) = none := by rfl) : DG c (.Tuple es k pos) ws (gTp n f) := by
  obtain ⟨t, p, q⟩ := h
  refine ⟨gTup c.X.K n t, pg_tup hc p hn hst, fun g H s σ τ v d τ' Q w r e kk => ?_⟩
  cases r with
  | tup h1 h2 =>
    have e : (if _ = n then _ else _) = some τ' := e
    split at e
    · rename_i hl
      exact ⟨_, _, rfl, sqT_mono w.sub h1, h2.length.trans hl, q g H s σ τ _ _ τ' Q w h2 e kk⟩
    · cases e
  | _ => cases e
/-! ### what is walked -/
structure Gives (c : Ctx) (g1 : Gh) (J : It) (ds : List D) : Prop where
  go : ∀ i d, ds[i]? = some d → ∀ g2 H2 s2, Le g1 g2 → WF c.X.K c.T g2 H2 s2 → J.go i H2 ∧ ∀ x H3, J.yld i H2 x H3 → ∃ g3, Ext g2 H2 g3 H3 ∧ WF c.X.K c.T g3 H3 s2 ∧ Rep c.X.K g3 x d
  stop : ∀ g2 H2 s2, Le g1 g2 → WF c.X.K c.T g2 H2 s2 → J.stop ds.length H2
def DI (c : Ctx) (tg iter : Expr) (f : AD) : Prop := ∃ wi : TI, PI c.X tg iter wi ∧ ∀ g H s σ τ R, Ok c g H s σ τ → Pg c g H (fun ds _ g' H' => ∀ J, Gives c g' J ds → R J H') (f τ s) → wi σ H R
/-- .. while nothing but a run's steps happens -/
structure GivesX (c : Ctx) (g1 : Gh) (H1 : Hp) (J : It) (ds : List D) : Prop where
  go : ∀ i d, ds[i]? = some d → ∀ g2 H2 s2, Ext g1 H1 g2 H2 → WF c.X.K c.T g2 H2 s2 → J.go i H2 ∧ ∀ x H3, J.yld i H2 x H3 → ∃ g3, Ext g2 H2 g3 H3 ∧ WF c.X.K c.T g3 H3 s2 ∧ Rep c.X.K g3 x d
  stop : ∀ g2 H2 s2, Ext g1 H1 g2 H2 → WF c.X.K c.T g2 H2 s2 → J.stop ds.length H2
def DIx (c : Ctx) (tg iter : Expr) (f : AD) : Prop := ∃ wi : TI, PI c.X tg iter wi ∧ ∀ g H s σ τ R, Ok c g H s σ τ → Pg c g H (fun ds _ g' H' => ∀ J, GivesX c g' H' J ds → R J H') (f τ s) → wi σ H R
theorem DI.x {tg iter : Expr} {f : AD} (h : DI c tg iter f) : DIx c tg iter f := by
  obtain ⟨wi, p, q⟩ := h
  exact ⟨wi, p, fun g H s σ τ R o h => q g H s σ τ R o (h.imp fun ds s1 g1 H1 e1 w1 k J hJ => k J ⟨fun i d hd g2 H2 s2 e2 w2 => hJ.go i d hd g2 H2 s2 e2.le w2, fun g2 H2 s2 e2 w2 => hJ.stop g2 H2 s2 e2.le w2⟩)⟩
def toL : D → M (List D)
  | .lst ds => M.ret ds
  | _ => fun _ => .no
def toT : D → M (List D)
  | .tup ds => M.ret ds
  | _ => fun _ => .no
def iLst (f : ED) : AD := fun τ s => (f τ s).bind toL
def iTpl (f : ED) : AD := fun τ s => (f τ s).bind toT
theorem di_list {tg e : Expr} {f : ED} (h : DE .z c e f) : DI c tg e (iLst f) := by
  obtain ⟨t, p, q⟩ := h
  refine ⟨iList c.X.K t, pi_list p, fun g H s σ τ R o h => q g H s σ τ _ o (Pg.seq h fun d s1 g1 H1 _ e1 w1 h1 v rv => ?_)⟩
  cases d with
  | lst ds =>
    have rv : Rep c.X.K g1 v (.lst ds) := rv
    cases rv with
    | @lst a xs _ hg rs =>
      refine ⟨a, rfl, ⟨xs, SqL.of (w1.sub _ _ hg)⟩, Pg.now h1 w1 _ ⟨fun i d hd g2 H2 s2 l2 w2 => ?_, fun g2 H2 s2 l2 w2 => ?_⟩⟩
      · have hq : SqL c.X.K H2 a xs := SqL.of (w2.sub _ _ (l2.G _ _ hg))
        obtain ⟨x, hx, rx⟩ := rs.get hd
        exact ⟨⟨xs, x, hq, hx⟩, fun y H3 hy => ⟨g2, by rw [hy.1]; exact Ext.refl _ _, by rw [hy.1]; exact w2, by
          have z := hy.2 xs hq
          rw [hx] at z; cases z
          exact rx.mono l2⟩⟩
      · exact ⟨xs, SqL.of (w2.sub _ _ (l2.G _ _ hg)), Nat.le_of_eq rs.length⟩
  | _ => exact h1.elim
/-- one's own list, walked by a comprehension -/
theorem di_listB {tg e : Expr} {f : ED} (h : DE .b c e f) : DIx c tg e (iLst f) := by
  obtain ⟨t, p, q⟩ := h
  refine ⟨iList c.X.K t, pi_list p, fun g H s σ τ R o h => q g H s σ τ _ o (Pg.seq h fun d s1 g1 H1 _ e1 w1 h1 v rv => ?_)⟩
  cases d with
  | lst ds =>
    obtain ⟨a, xs, hv, ha, rs, st⟩ : ∃ a xs, v = .ref a ∧ H1 a = some (.lst xs) ∧ Reps c.X.K g1 xs ds ∧ ∀ g2 H2 s2, Ext g1 H1 g2 H2 → WF c.X.K c.T g2 H2 s2 → H2 a = some (.lst xs) := by
      rcases rv with rv | rv
      · cases rv with
        | lst hg rs => exact ⟨_, _, rfl, w1.sub _ _ hg, rs, fun g2 H2 s2 e2 w2 => w2.sub _ _ (e2.le.G _ _ hg)⟩
      · cases rv with
        | lst a1 a2 a3 a4 => exact ⟨_, _, rfl, a3, a4, fun g2 H2 s2 e2 w2 => e2.keep _ _ a3 a2 fun ps => by simp⟩
    subst hv
    refine ⟨a, rfl, ⟨xs, SqL.of ha⟩, Pg.now h1 w1 _ ⟨fun i d hd g2 H2 s2 e2 w2 => ?_, fun g2 H2 s2 e2 w2 => ?_⟩⟩
    · have hq : SqL c.X.K H2 a xs := SqL.of (st g2 H2 s2 e2 w2)
      obtain ⟨x, hx, rx⟩ := rs.get hd
      exact ⟨⟨xs, x, hq, hx⟩, fun y H3 hy => ⟨g2, by rw [hy.1]; exact Ext.refl _ _, by rw [hy.1]; exact w2, by
        have z := hy.2 xs hq
        rw [hx] at z; cases z
        exact rx.mono e2.le⟩⟩
    · exact ⟨xs, SqL.of (st g2 H2 s2 e2 w2), Nat.le_of_eq rs.length⟩
  | _ => exact h1.elim
theorem di_tup {tg e : Expr} {f : ED} (h : DE .z c e f) : DI c tg e (iTpl f) := by
  obtain ⟨t, p, q⟩ := h
  refine ⟨iTup c.X.K t, pi_tup p, fun g H s σ τ R o h => q g H s σ τ _ o (Pg.seq h fun d s1 g1 H1 _ e1 w1 h1 v rv => ?_)⟩
  cases d with
  | tup ds =>
    have rv : Rep c.X.K g1 v (.tup ds) := rv
    cases rv with
    | @tup a xs _ hg rs =>
      refine ⟨a, rfl, ⟨xs, sqT_mono w1.sub hg⟩, Pg.now h1 w1 _ ⟨fun i d hd g2 H2 s2 l2 w2 => ?_, fun g2 H2 s2 l2 w2 => ?_⟩⟩
      · have hq : SqT c.X.K H2 a xs := sqT_mono (fun a o e => w2.sub _ _ (l2.G a o e)) hg
        obtain ⟨x, hx, rx⟩ := rs.get hd
        exact ⟨⟨xs, x, hq, hx⟩, fun y H3 hy => ⟨g2, by rw [hy.1]; exact Ext.refl _ _, by rw [hy.1]; exact w2, by
          have z := hy.2 xs hq
          rw [hx] at z; cases z
          exact rx.mono l2⟩⟩
      · exact ⟨xs, sqT_mono (fun a o e => w2.sub _ _ (l2.G a o e)) hg, Nat.le_of_eq rs.length⟩
  | _ => exact h1.elim
theorem gives_range {g : Gh} (lo : Int) (n : Nat) : Gives c g (Itr lo n) ((List.range n).map fun (i : Nat) => D.int (lo + (i : Int))) :=
  ⟨fun i d hd g2 H2 s2 l2 w2 => by
    rw [List.getElem?_map] at hd
    cases z : (List.range n)[i]? with
    | none => rw [z] at hd; cases hd
    | some j =>
      rw [z] at hd
      have hlt : i < n := by
        have := (List.getElem?_eq_some_iff.mp z).1
        rwa [List.length_range] at this
      rw [List.getElem?_range hlt] at z
      cases z
      cases hd
      exact ⟨hlt, fun x H3 hy => ⟨g2, by rw [hy.1]; exact Ext.refl _ _, by rw [hy.1]; exact w2, by rw [hy.2]; exact .int _⟩⟩, fun g2 H2 s2 l2 w2 => by
    show n ≤ _
    rw [List.length_map, List.length_range]
    exact Nat.le_refl n⟩
def rg62 (i : Int) : Bool := decide (-(2 ^ 62) ≤ i) && decide (i < 2 ^ 62)
def range1D : List D → Option (List D)
  | [.int j] => if rg62 j then some ((List.range j.toNat).map fun (i : Nat) => D.int (0 + (i : Int))) else none
  | _ => none
def range2D : List D → Option (List D)
  | [.int i, .int j] => if rg62 i && rg62 j then some ((List.range (j - i).toNat).map fun (k : Nat) => D.int (i + (k : Int))) else none
  | _ => none
def iN (op : List D → Option (List D)) (a : AD) : AD := fun τ s => (a τ s).bind fun xs => M.opt (op xs)
theorem RKs.ints1 {k : Kd} {K : PySem.W.Frag} {H0 : Hp} {vs : List V} {i : Int} (h : RKs k K g H0 H vs [.int i]) : vs = [.int i] := by
  cases h with
  | cons h r => cases r; rw [h.int]
theorem RKs.ints2 {k : Kd} {K : PySem.W.Frag} {H0 : Hp} {vs : List V} {i j : Int} (h : RKs k K g H0 H vs [.int i, .int j]) : vs = [.int i, .int j] := by
  cases h with
  | cons h r =>
    cases r with
    | cons h' r => cases r; rw [h.int, h'.int]
theorem di_range1 {tg a : Expr} {f : AD} {p pos : Pos} (ha : DA .b c [a] f) (hm : c.X.mg "range" = none) (hg : Gl c.X "range" := by rfl) (hs : starEach [a] c.X.env = [(false, eval a c.X.env)] := by rfl) : DI c tg (.Call (.Name "range" p) [a] [] pos) (iN range1D f) := by
  obtain ⟨t, pt, qt⟩ := ha
  refine ⟨iRng1 t, pi_range1 hg hm pt hs, fun g H s σ τ R o h => qt g H s σ τ _ o (Pg.seq h fun xs s1 g1 H1 er e1 w1 h1 vs rs => ?_)⟩
  clear er
  obtain ⟨b, eb, k⟩ := h1.opt
  unfold range1D at eb
  split at eb
  · rename_i j
    split at eb
    · rename_i hz
      cases eb
      have hz := Bool.and_eq_true_iff.mp hz
      exact ⟨j, rs.ints1, of_decide_eq_true hz.1, of_decide_eq_true hz.2, k g1 H1 (Ext.refl _ _) w1 _ (gives_range 0 j.toNat)⟩
    · cases eb
  · cases eb
theorem di_range2 {tg a b : Expr} {f : AD} {p pos : Pos} (ha : DA .b c [a, b] f) (hm : c.X.mg "range" = none) (hg : Gl c.X "range" := by rfl) (hs : starEach [a, b] c.X.env = [(false, eval a c.X.env), (false, eval b c.X.env)] := by rfl) (hs2 : starEach [b] c.X.env = [(false, eval b c.X.env)] := by rfl) :
    DI c tg (.Call (.Name "range" p) [a, b] [] pos) (iN range2D f) := by
  obtain ⟨t, pt, qt⟩ := ha
  refine ⟨iRng2 t, pi_range2 hg hm pt hs hs2, fun g H s σ τ R o h => qt g H s σ τ _ o (Pg.seq h fun xs s1 g1 H1 er e1 w1 h1 vs rs => ?_)⟩
  clear er
  obtain ⟨b, eb, k⟩ := h1.opt
  unfold range2D at eb
  split at eb
  · rename_i i j
    split at eb
    · rename_i hz
      cases eb
      have hz := Bool.and_eq_true_iff.mp hz
      have h1 := Bool.and_eq_true_iff.mp hz.1
      have h2 := Bool.and_eq_true_iff.mp hz.2
      exact ⟨i, j, rs.ints2, ⟨of_decide_eq_true h1.1, of_decide_eq_true h1.2, of_decide_eq_true h2.1, of_decide_eq_true h2.2⟩, k g1 H1 (Ext.refl _ _) w1 _ (gives_range i (j - i).toNat)⟩
    · cases eb
  · cases eb
/-! ### for -/
def forGo (tg : D → Ev → Option Ev) (b : SD) : List D → SD
  | [], τ => M.ret (.nx τ)
  | d :: ds, τ => match tg d τ with
    | none => fun _ => .no
    | some τ1 => fun s => (b τ1 s).bind fun fl => match fl with
      | .nx τ2 => forGo tg b ds τ2
      | .ct τ2 => forGo tg b ds τ2
      | .bk τ2 => M.ret (.nx τ2)
      | .rt d => M.ret (.rt d)
def sFor (it : AD) (tg : D → Ev → Option Ev) (b : SD) : SD := fun τ s => (it τ s).bind fun ds => forGo tg b ds τ
theorem ds_for {tg iter : Expr} {body : List Stmt} {fi : AD} {ws : List Nat} {fg : D → Ev → Option Ev} {fb : SD} {pos : Pos} (hp : PassesOwn (model c.X.prog c.X.w) c.X.A c.X.env c.X.xe) (hi : DI c tg iter fi) (hg : DG c tg ws fg) (hb : DSs c body fb) (hO : ws.all (fun i => !c.O i) = true := by rfl)
    (hc : c.X.calm = true := by rfl) (hs : ∀ x, foldedSetIterable iter c.X.env x = pure x := by intro _; rfl) : DS c (.For tg iter body [] pos) (sFor fi fg fb) := by
  obtain ⟨wi, pi, qi⟩ := hi
  obtain ⟨tt, pg, qg⟩ := hg
  obtain ⟨u, p', q'⟩ := hb
  have hO : ∀ i ∈ ws, c.O i = false := fun i hi => by
    have := List.all_eq_true.mp hO i hi
    simpa using this
  refine ⟨tFor wi tt u, ps_for hp hc pi pg p' hs, fun g0 H0 g H s σ τ Dn o h => qi g H s σ τ _ o.ok (Ps.seq o h fun ds s1 g1 H1 _ e1 w1 o1 h1 => fun J hJ => ?_)⟩
  refine ⟨fun i m σ H => m = ds.length - i ∧ i ≤ ds.length ∧ ∃ g s τ, Le g1 g ∧ SOk c g0 H0 g H s σ τ ∧ Ps c g0 H0 g Dn (forGo fg fb (ds.drop i) τ s), ⟨ds.length, rfl, Nat.zero_le _, g1, s1, τ, Le.refl _, o1, h1⟩, ?_⟩
  rintro i m σ2 H2 ⟨rfl, hi, g2, s2, τ2, l2, o2, h2⟩
  by_cases hlt : i < ds.length
  · rw [List.drop_eq_getElem_cons hlt] at h2
    unfold forGo at h2
    obtain ⟨hgo, hy⟩ := hJ.go i ds[i] (List.getElem?_eq_getElem hlt) g2 H2 s2 l2 o2.ok.wf
    refine .inr ⟨hgo, fun σ' H' => ∃ g s τ, Le g1 g ∧ SOk c g0 H0 g H' s σ' τ ∧ Ps c g0 H0 g Dn (forGo fg fb (ds.drop (i + 1)) τ s), fun σ' H' hh => ⟨ds.length - (i + 1), by omega, rfl, hlt, hh⟩, fun x H' hx => ?_⟩
    obtain ⟨g3, e3, w3, r3⟩ := hy x H' hx
    have o3 := o2.ext' e3 w3
    cases z : fg ds[i] τ2 with
    | none => rw [z] at h2; exact h2.elim
    | some τ3 =>
      rw [z] at h2
      refine qg g3 H' s2 σ2 τ2 x ds[i] τ3 _ w3 r3 z fun σ3 a => q' g0 H0 g3 H' s2 σ3 τ3 _ (o3.wr hO a) ?_
      have h2 : Ps c g0 H0 g2 Dn ((fb τ3 s2).bind fun fl => match fl with
        | .nx τ2 => forGo fg fb (ds.drop (i + 1)) τ2
        | .ct τ2 => forGo fg fb (ds.drop (i + 1)) τ2
        | .bk τ2 => M.ret (.nx τ2)
        | .rt d => M.ret (.rt d)) := h2
      cases r : fb τ3 s2 with
      | ok fl s4 =>
        rw [r] at h2
        cases fl with
        | nx τ4 => exact fun g4 H4 σ4 l4 o4 => ⟨g4, s4, τ4, (l2.trans e3.le).trans l4, o4, Ps.mono (e3.le.trans l4) h2⟩
        | ct τ4 => exact fun g4 H4 σ4 l4 o4 => ⟨g4, s4, τ4, (l2.trans e3.le).trans l4, o4, Ps.mono (e3.le.trans l4) h2⟩
        | bk τ4 => exact fun g4 H4 σ4 l4 o4 => h2 g4 H4 σ4 (e3.le.trans l4) o4
        | rt d => exact h2
      | exc cl s4 => rw [r] at h2; exact h2
      | no => rw [r] at h2; exact h2
  · have e : i = ds.length := by omega
    subst e
    rw [List.drop_length] at h2
    exact .inl ⟨hJ.stop g2 H2 s2 l2 o2.ok.wf, h2 g2 H2 σ2 (Le.refl _) o2⟩
/-! ### stores into one's own list -/
def sApp (i : Nat) (f : ED) : SD := fun τ => match τ[i]? with
  | some (some (.lst xs)) => fun s => (f τ s).bind fun d => if small (xs.length + 1) then M.ret (.nx (τ.set i (some (.lst (xs ++ [d]))))) else fun _ => .no
  | _ => fun _ => .no
theorem slotL {τ : Ev} {i : Nat} {F : List D → M Fl} {s : Sto} {P : R Fl → Prop} (hno : ¬ P .no) (h : P ((match τ[i]? with
  | some (some (.lst xs)) => F xs
  | _ => fun _ => .no) s)) : ∃ xs, τ[i]? = some (some (.lst xs)) ∧ P (F xs s) := by
  cases q : τ[i]? with
  | none => rw [q] at h; exact absurd h hno
  | some od =>
    cases od with
    | none => rw [q] at h; exact absurd h hno
    | some d =>
      cases d with
      | lst xs => rw [q] at h; exact ⟨xs, rfl, h⟩
      | _ => rw [q] at h; exact absurd h hno
theorem small_lt {n : Nat} (h : small (n + 1) = true) : n < sizeLine := small_line h
theorem SOk.ownL (o : SOk c g0 H0 g H s σ τ) {i : Nat} {ds : List D} (hO : c.O i = true) (h : τ[i]? = some (some (.lst ds))) : ∃ p xs, σ[i]? = some (some (.ref p)) ∧ H p = some (.lst xs) ∧ Reps c.X.K g xs ds ∧ g.G p = none ∧ ∀ n, g.r n ≠ some p := by
  obtain ⟨v, h1, h2⟩ := o.ok.sl.at_ i _ h
  rw [hO, if_pos rfl] at h2
  cases h2 with
  | lst a1 a2 a3 a4 => exact ⟨_, _, h1, a3, a4, a1, a2⟩
theorem ds_app {i : Nat} {x : Str} {e : Expr} {f : ED} {p pos apos cpos : Pos} (he : DE .z c e f) (hO : c.O i = true := by rfl) (hN : c.X.N[i]? = some x := by rfl) (hv : Vis c.X.env.scope x := by first | exact Or.inl rfl | exact Or.inr (Or.inl rfl) | exact Or.inr (Or.inr rfl)) (hd : (x == ("__debug__" : Str)) = false := by decide)
    (hcd : (x == ("__classdict__" : Str)) = false := by decide) (hs : starEach [e] c.X.env = (false, eval e c.X.env) :: starEach [] c.X.env := by rfl)
    (hsw : swapsWith (.Call (.Attribute (.Name x p) "append" apos) [e] [] cpos) none pos.line c.X.env = pure false := by rfl) 
    (hbase : attributeBase (.Name x p) "append" c.X.env (eval (.Name x p) c.X.env) = eval (.Name x p) c.X.env := by rfl)
    (hfew : ((backTo cpos (starEach [e] c.X.env)).all (fun x => !x.1) && (backToKw cpos (keywordEach [] c.X.env)).all (fun x => x.1.isSome)
      && decide ([e].length + ([] : List Keyword).length + (if ([] : List Keyword).isEmpty then 0 else 1) < 30)) = true := by rfl)
    (hline : (apos.endLine == cpos.line) = true := by rfl) (hplain : (backTo cpos (starEach [] c.X.env)).any (·.1) = false := by rfl) :
    DS c (.Expr (.Call (.Attribute (.Name x p) "append" apos) [e] [] cpos) pos) (sApp i f) := by
  obtain ⟨t, pt, qt⟩ := he
  refine ⟨_, ps_expr (pe_bm PySem.F.plainAttrs_list PySem.F.slot_list_append PySem.F.type_list_append mt_append (pe_var (i := i) hN hv hd hcd) (pa_cons pt pa_nil hs) hbase hfew hline hs hplain) hsw, fun g0 H0 g H s σ τ Dn o h => ?_⟩
  obtain ⟨ds, z, h⟩ := slotL (P := Ps c g0 H0 g Dn) (fun z => z) h
  obtain ⟨p, xs, h1, h2, h3, h4, h5⟩ := o.ownL hO z
  refine ⟨.ref p, h1, .inl ⟨rfl, xs, SqL.of h2⟩, qt g H s σ τ _ o.ok (Ps.seq o h fun d s1 g1 H1 _ e1 w1 o1 h6 v rv => ?_)⟩
  by_cases hz : small (ds.length + 1) = true
  · rw [if_pos hz] at h6
    have k2 : H1 p = some (.lst xs) := e1.keep p _ h2 h5 (fun ps => by simp)
    refine ⟨p, xs, v, rfl, rfl, k2, small_lt (by rw [h3.length]; exact hz), ?_⟩
    have ne : H p ≠ none := by rw [h2]; simp
    refine h6 g1 _ σ (Le.refl _) (o1.mut i hO z h1 k2 (.inl ⟨xs, rfl⟩) (.lst ((e1.newG p ne).trans h4) (fun n q => ?_) upd_same ((h3.mono e1.le).append (.cons rv .nil))))
    rcases e1.newR n p q with z | z
    · exact h5 n z
    · exact ne z
  · rw [if_neg hz] at h6
    exact h6.elim
/-- x[j] = e -/
def sSetI (i : Nat) (ix : ED) (f : ED) : SD := fun τ s => (f τ s).bind fun d s => match τ[i]? with
  | some (some (.lst xs)) => (ix τ s).bind fun j => match j with
    | .int j => match ixN xs.length j with
      | some k => M.ret (.nx (τ.set i (some (.lst (xs.set k d)))))
      | none => fun _ => .no
    | _ => fun _ => .no
  | _ => .no
theorem ds_setI {i : Nat} {x : Str} {e ix : Expr} {f fx : ED} {p p' pos : Pos} (he : DE .z c e f) (hx : DE .b c ix fx) (hO : c.O i = true := by rfl) (hN : c.X.N[i]? = some x := by rfl) (hv : Vis c.X.env.scope x := by first | exact Or.inl rfl | exact Or.inr (Or.inl rfl) | exact Or.inr (Or.inr rfl)) (hd : (x == ("__debug__" : Str)) = false := by decide)
    (hcd : (x == ("__classdict__" : Str)) = false := by decide) (hs : swapsWithSole [.Subscript (.Name x p) ix p'] e pos.line c.X.env = pure false := by rfl) (hw : swappedStores [.Subscript (.Name x p) ix p'] e c.X.env = pure none := by rfl)
    (h1 : (assignEach [.Subscript (.Name x p) ix p'] c.X.env).map (·.2) = [assign (.Subscript (.Name x p) ix p') c.X.env] := by rfl)
    (ha : ∀ v, assign (.Subscript (.Name x p) ix p') c.X.env v = (do
      let ov ← holding [v] (eval (.Name x p) c.X.env)
      let iv ← holding [v, ov] (eval ix c.X.env)
      standAt p'
      holding [v, ov, iv] (setItem ov iv v)
      release [v, ov, iv] []) := by intro _; rfl) :
    DS c (.Assign [.Subscript (.Name x p) ix p'] e pos) (sSetI i fx f) := by
  obtain ⟨t, pt, qt⟩ := he
  obtain ⟨u, pu, qu⟩ := hx
  refine ⟨_, ps_asg pt (pg_sub (pe_var (i := i) hN hv hd hcd) pu set_list ha) hs hw h1, fun g0 H0 g H s σ τ Dn o h => qt g H s σ τ _ o.ok (Ps.seq o h fun d s1 g1 H1 _ e1 w1 o1 h6 v rv => ?_)⟩
  split at h6
  · rename_i ds z
    obtain ⟨p, xs, h1, h2, h3, h4, h5⟩ := o1.ownL hO z
    refine ⟨.ref p, h1, qu g1 H1 s1 σ τ _ o1.ok (Ps.seq o1 h6 fun j s2 g2 H2 _ e2 w2 o2 h7 y ry => ?_)⟩
    cases j with
    | int j =>
      have h7 : Ps c g0 H0 g2 Dn ((match ixN ds.length j with
        | some k => M.ret (Fl.nx (τ.set i (some (.lst (ds.set k d)))))
        | none => fun _ => .no) s2) := h7
      cases q : ixN ds.length j with
      | none => rw [q] at h7; exact h7.elim
      | some k =>
        rw [q] at h7
        have k2 : H2 p = some (.lst xs) := e2.keep p _ h2 h5 (fun ps => by simp)
        refine ⟨p, xs, j, k, rfl, ry.int, k2, by rw [h3.length]; exact q, ?_⟩
        have ne : H1 p ≠ none := by rw [h2]; simp
        refine h7 g2 _ σ (Le.refl _) (o2.mut i hO z h1 k2 (.inl ⟨xs, rfl⟩) (.lst ((e2.newG p ne).trans h4) (fun n q => ?_) upd_same (Reps.set (rv.mono e2.le) k (h3.mono e2.le))))
        rcases e2.newR n p q with z | z
        · exact h5 n z
        · exact ne z
    | _ => exact h7.elim
  · exact h6.elim
/-! ### defs -/
def fnM (np nN : Nat) (b : SD) : FD := fun ds s => if ds.length = np then (b (ds.map some ++ List.replicate (nN - np) none) s).bind fun fl => match fl with
  | .nx _ => M.ret .non
  | .rt d => M.ret d
  | _ => fun _ => .no
  else .no
end
section
variable {P : Program} {w : World} {K : PySem.W.Frag} {mg : Str → Option Value} {base : Heap} {T : List (Addr × Str)} {x qual : Str} {params : Arguments} {body : List Stmt} {scope : Scope} {f : Addr} {fd : FuncData}
abbrev cxD (P : Program) (w : World) (K : PySem.W.Frag) (mg : Str → Option Value) (base : Heap) (T : List (Addr × Str)) (N : List Str) (qual : Str) (scope : Scope) (f : Addr) (cdv : Value) (A : Around) (outer : List Env) (s : Shared) (H : Hp) (E : XK) (O : Nat → Bool) : Ctx :=
  ⟨cxOf (L2N.CX P w) P w K mg base N qual scope f cdv A outer s H E, T, E, O⟩
theorem fn_mk {kws : List (Str × V)} {N ps : List Str} {k : Nat} {b : SD} (O : Nat → Bool) (F : FunD K x qual params body scope [] kws f fd) (S : FnScope N ps scope)
    (hbody : ∀ (cdv : Value) (A : Around) (outer : List Env) (s : Shared) (H : Hp) (E : XK), Room k (A.deeper (envOfC qual scope s.heap.objs.size f cdv)) →
      Passes (L2N.CX P w) (cxD P w K mg base T N qual scope f cdv A outer s H E O).X E → (L2N.Takes (cxD P w K mg base T N qual scope f cdv A outer s H E O).X fun cls d _ H => E cls d H) → PassesOwn (model P w) (cxD P w K mg base T N qual scope f cdv A outer s H E O).X.A (cxD P w K mg base T N qual scope f cdv A outer s H E O).X.env (cxD P w K mg base T N qual scope f cdv A outer s H E O).X.xe →
      DSs (cxD P w K mg base T N qual scope f cdv A outer s H E O) body b) (hO : (List.range ps.length).all (fun i => !O i) = true := by rfl) : FnOk P w K mg base (L2N.CX P w) (k + 1) f fd ps (spOf K T (fnM ps.length N.length b)) := by
  refine F.ok S (fun vs H Q E h => ?_) fun cdv A outer s H vs Q E hr h => ?_
  · obtain ⟨g, st, ds, w1, r, h⟩ := h
    rw [r.length]
    unfold fnM at h
    by_cases q : ds.length = ps.length
    · exact q
    · rw [if_neg q] at h; exact h.elim
  · have tk := L2N.takes_of (X := cxOf (L2N.CX P w) P w K mg base N qual scope f cdv A outer s H E) (E := E) rfl rfl rfl rfl
    obtain ⟨t, p, q⟩ := hbody cdv A outer s H E hr (L2N.passes_call tk fun _ _ _ _ h => h) tk (passes_of (X := cxOf (L2N.CX P w) P w K mg base N qual scope f cdv A outer s H E) rfl)
    refine ⟨t, p, ?_⟩
    obtain ⟨g, st, ds, w1, r, h⟩ := h
    unfold fnM at h
    by_cases hl : ds.length = ps.length
    · rw [if_pos hl] at h
      have lv := r.length
      have hO : ∀ i, i < ps.length → O i = false := fun i hi => by
        have := List.all_eq_true.mp hO i (List.mem_range.mpr hi)
        simpa using this
      have atS : ∀ i d, (ds.map some ++ List.replicate (N.length - ps.length) none)[i]? = some (some d) → i < ps.length ∧ ∃ v, (L2.start N vs)[i]? = some (some v) ∧ Rep K g v d := fun i d e => by
        by_cases hi : i < ds.length
        · rw [List.getElem?_append_left (by rw [List.length_map]; exact hi), List.getElem?_map] at e
          cases z : ds[i]? with
          | none => rw [z] at e; cases e
          | some d' =>
            rw [z] at e
            cases e
            obtain ⟨v, h1, h2⟩ := r.get z
            refine ⟨by omega, v, ?_, h2⟩
            unfold L2.start
            rw [List.getElem?_append_left (by rw [List.length_map]; omega), List.getElem?_map, h1]
            rfl
        · rw [List.getElem?_append_right (by rw [List.length_map]; omega)] at e
          rw [List.getElem?_replicate] at e
          split at e <;> cases e
      have o : SOk (cxD P w K mg base T N qual scope f cdv A outer s H E O) g H g H st (L2.start N vs) (ds.map some ++ List.replicate (N.length - ps.length) none) := by
        refine ⟨⟨w1, ⟨?_, fun i d e => ?_, fun i j p hi hj hij e1 e2 => ?_⟩⟩, Ext.refl _ _, fun i p d hi e1 e2 => ?_⟩
        · unfold L2.start
          rw [List.length_append, List.length_append, List.length_map, List.length_map, List.length_replicate, List.length_replicate, lv, hl]
        · obtain ⟨hi, v, h1, h2⟩ := atS i d e
          refine ⟨v, h1, ?_⟩
          show if O i = true then _ else _
          rw [hO i hi, if_neg Bool.false_ne_true]
          exact h2
        · have hi' : O i = true := hi
          by_cases hlt : i < ps.length
          · rw [hO i hlt] at hi'; cases hi'
          · unfold L2.start at e1
            rw [List.getElem?_append_right (by rw [List.length_map]; omega), List.getElem?_replicate] at e1
            split at e1 <;> cases e1
        · obtain ⟨hlt, _⟩ := atS i d e1
          have hi' : O i = true := hi
          rw [hO i hlt] at hi'; cases hi'
      refine q g H g H st (L2.start N vs) _ _ o ?_
      cases z : b (ds.map some ++ List.replicate (N.length - ps.length) none) st with
      | ok fl s1 =>
        rw [z] at h
        cases fl with
        | nx τ1 => exact fun g' H' σ' l' o' => h .non g' H' o'.ext o'.ok.wf .non
        | bk τ1 => exact h.elim
        | ct τ1 => exact h.elim
        | rt d => exact fun g' H' v e' w' r' => h v g' H' e' w' r'
      | exc cl s1 => rw [z] at h; exact h
      | no => rw [z] at h; exact h
    · rw [if_neg hl] at h; exact h.elim
end
end Mir

set_option Elab.async false
set_option linter.all false
set_option maxRecDepth 100000
set_option maxHeartbeats 4000000
/-! Mir, part E: list comprehensions. -/
namespace Mir
open PySem PySem.Spec PyProof.Rows L2
/-! ### readings that hang on a context's K, T, W, O alone -/
def PgK (K : PySem.W.Frag) (T : List (Addr × Str)) (W : XK) (g : Gh) (H : Hp) {β : Type} (C : β → Sto → Gh → Hp → Prop) : R β → Prop
  | .ok b s' => ∀ g' H', Ext g H g' H' → WF K T g' H' s' → C b s' g' H'
  | .exc cl s' => ∀ g' H', Ext g H g' H' → WF K T g' H' s' → W (clsV K cl) none H'
  | .no => False
theorem pgK {c : Ctx} {g : Gh} {H : Hp} {β : Type} {C : β → Sto → Gh → Hp → Prop} {r : R β} : Pg c g H C r ↔ PgK c.X.K c.T c.W g H C r := by
  cases r <;> exact Iff.rfl
def tEK (k : Kd) (K : PySem.W.Frag) (T : List (Addr × Str)) (W : XK) (O : Nat → Bool) (f : ED) : TE := fun σ H Q => ∃ g s τ, WF K T g H s ∧ Sl K g H O σ τ ∧ PgK K T W g H (fun d _ g' H' => ∀ v, RK k K g' H H' v d → Q v H') (f τ s)
def tTK (K : PySem.W.Frag) (T : List (Addr × Str)) (W : XK) (O : Nat → Bool) (f : TD) : TT := fun σ H Q => ∃ g s τ, WF K T g H s ∧ Sl K g H O σ τ ∧ PgK K T W g H (fun b _ _ H' => Q b H') (f τ s)
def tGK (K : PySem.W.Frag) (T : List (Addr × Str)) (ws : List Nat) (f : D → Ev → Option Ev) : TG := fun v σ H Q => ∃ g s τ d τ', WF K T g H s ∧ Rep K g v d ∧ f d τ = some τ' ∧ ∀ σ', Wr K g ws σ τ σ' τ' → Q σ' H
section
variable {c : Ctx}
theorem DE.can {k : Kd} {e : Expr} {f : ED} (h : DE k c e f) : PE c.X e (tEK k c.X.K c.T c.W c.O f) := by
  obtain ⟨t, p, q⟩ := h
  refine ⟨fun pins s σ H Q I ⟨g, st, τ, w, l, h⟩ => p.run pins s σ H Q I (q g H st σ τ Q ⟨w, l⟩ (pgK.mpr h))⟩
theorem DT.can {e : Expr} {f : TD} (h : DT c e f) : PT c.X e (tTK c.X.K c.T c.W c.O f) := by
  obtain ⟨t, p, q⟩ := h
  refine ⟨fun pins s σ H Q I ⟨g, st, τ, w, l, h⟩ => p.run pins s σ H Q I (q g H st σ τ Q ⟨w, l⟩ (pgK.mpr h))⟩
theorem DG.can {tg : Expr} {ws : List Nat} {f : D → Ev → Option Ev} (h : DG c tg ws f) : PG c.X tg (tGK c.X.K c.T ws f) := by
  obtain ⟨t, p, q⟩ := h
  refine ⟨fun pins s σ H v u Q I r ⟨g, st, τ, d, τ', w, rv, e, k⟩ => p.run pins s σ H v u Q I r (q g H st σ τ v d τ' Q w rv e k)⟩
end
/-! ### the slots of the block's own names -/
def wipeD (τ : Ev) : List Nat → Ev
  | [] => τ
  | v :: vs => (wipeD τ vs).set v none
theorem wipeD_length (τ : Ev) : ∀ vs, (wipeD τ vs).length = τ.length
  | [] => rfl
  | v :: vs => by unfold wipeD; rw [List.length_set, wipeD_length τ vs]
theorem wipe_at (σ : St) (i : Nat) : ∀ vs, i ∉ vs → (wipe σ vs)[i]? = σ[i]?
  | [], _ => rfl
  | v :: vs, h => by
    unfold wipe
    rw [List.getElem?_set_ne (fun z => h (by rw [z]; exact List.mem_cons_self)), wipe_at σ i vs fun z => h (List.mem_cons_of_mem _ z)]
theorem wipeD_at (τ : Ev) (i : Nat) : ∀ vs, i ∉ vs → (wipeD τ vs)[i]? = τ[i]?
  | [], _ => rfl
  | v :: vs, h => by
    unfold wipeD
    rw [List.getElem?_set_ne (fun z => h (by rw [z]; exact List.mem_cons_self)), wipeD_at τ i vs fun z => h (List.mem_cons_of_mem _ z)]
theorem wipe_in (σ : St) (i : Nat) : ∀ vs, i ∈ vs → i < σ.length → (wipe σ vs)[i]? = some none
  | v :: vs, h, hl => by
    unfold wipe
    by_cases q : v = i
    · subst q
      rw [List.getElem?_set_self (by rw [wipe_length]; exact hl)]
    · rw [List.getElem?_set_ne q]
      refine wipe_in σ i vs ?_ hl
      rcases List.mem_cons.mp h with z | z
      · exact absurd z.symm q
      · exact z
theorem wipeD_in (τ : Ev) (i : Nat) : ∀ vs, i ∈ vs → i < τ.length → (wipeD τ vs)[i]? = some none
  | v :: vs, h, hl => by
    unfold wipeD
    by_cases q : v = i
    · subst q
      rw [List.getElem?_set_self (by rw [wipeD_length]; exact hl)]
    · rw [List.getElem?_set_ne q]
      refine wipeD_in τ i vs ?_ hl
      rcases List.mem_cons.mp h with z | z
      · exact absurd z.symm q
      · exact z
theorem wipe_eq {σ σ2 : St} {vs : List Nat} (hl : σ2.length = σ.length) (h : ∀ i, i ∉ vs → σ2[i]? = σ[i]?) : wipe σ2 vs = wipe σ vs := by
  refine List.ext_getElem? fun i => ?_
  by_cases hi : i < σ.length
  · by_cases hv : i ∈ vs
    · rw [wipe_in σ2 i vs hv (by omega), wipe_in σ i vs hv hi]
    · rw [wipe_at σ2 i vs hv, wipe_at σ i vs hv, h i hv]
  · rw [List.getElem?_eq_none (by rw [wipe_length]; omega), List.getElem?_eq_none (by rw [wipe_length]; omega)]
theorem Wr.keep {K : PySem.W.Frag} {g : Gh} {ws : List Nat} {σ σ' : St} {τ τ' : Ev} (a : Wr K g ws σ τ σ' τ') : σ'.length = σ.length ∧ ∀ i, i ∉ ws → σ'[i]? = σ[i]? := by
  induction a with
  | nil => exact ⟨rfl, fun _ _ => rfl⟩
  | set hi r _ ih =>
    refine ⟨ih.1.trans (List.length_set ..), fun i hn => ?_⟩
    rw [ih.2 i hn, List.getElem?_set_ne (fun z => hn (by rw [← z]; exact hi))]
theorem Sl.wipe {K : PySem.W.Frag} {g : Gh} {H : Hp} {O : Nat → Bool} {σ : St} {τ : Ev} (h : Sl K g H O σ τ) (vs : List Nat) : Sl K g H O (wipe σ vs) (wipeD τ vs) := by
  refine ⟨by rw [wipe_length, wipeD_length]; exact h.len, fun i d hd => ?_, fun i j p hi hj hij e1 e2 => ?_⟩
  · by_cases q : i ∈ vs
    · have hl : i < τ.length := by
        have := (List.getElem?_eq_some_iff.mp hd).1
        rwa [wipeD_length] at this
      rw [wipeD_in τ i vs q hl] at hd
      cases hd
    · rw [wipeD_at τ i vs q] at hd
      obtain ⟨v, h1, h2⟩ := h.at_ i d hd
      exact ⟨v, by rw [wipe_at σ i vs q]; exact h1, h2⟩
  · have n1 : i ∉ vs := fun z => by
      have hl := (List.getElem?_eq_some_iff.mp e1).1
      rw [wipe_length] at hl
      rw [wipe_in σ i vs z hl] at e1; cases e1
    have n2 : j ∉ vs := fun z => by
      have hl := (List.getElem?_eq_some_iff.mp e2).1
      rw [wipe_length] at hl
      rw [wipe_in σ j vs z hl] at e2; cases e2
    rw [wipe_at σ i vs n1] at e1
    rw [wipe_at σ j vs n2] at e2
    rw [wipeD_at τ i vs n1, wipeD_at τ j vs n2]
    exact h.ne i j p hi hj hij e1 e2
theorem Sl.set {K : PySem.W.Frag} {g : Gh} {H : Hp} {O : Nat → Bool} {σ : St} {τ : Ev} {v : V} {d : D} (o : Sl K g H O σ τ) (i : Nat) (hO : O i = false) (r : Rep K g v d) : Sl K g H O (σ.set i (some v)) (τ.set i (some d)) := by
  refine ⟨by rw [List.length_set, List.length_set]; exact o.len, fun j d' hd => ?_, fun j k p hj hk hjk e1 e2 => ?_⟩
  · by_cases q : i = j
    · subst q
      have hlt : i < τ.length := by
        have := (List.getElem?_eq_some_iff.mp hd).1
        rwa [List.length_set] at this
      rw [List.getElem?_set_self hlt] at hd
      cases hd
      refine ⟨v, List.getElem?_set_self (by rw [o.len]; exact hlt), ?_⟩
      rw [hO, if_neg Bool.false_ne_true]
      exact r
    · rw [List.getElem?_set_ne q] at hd
      obtain ⟨u, h1, h2⟩ := o.at_ j d' hd
      exact ⟨u, by rw [List.getElem?_set_ne q]; exact h1, h2⟩
  · have n1 : i ≠ j := fun z => by subst z; rw [hO] at hj; cases hj
    have n2 : i ≠ k := fun z => by subst z; rw [hO] at hk; cases hk
    rw [List.getElem?_set_ne n1] at e1
    rw [List.getElem?_set_ne n2] at e2
    rw [List.getElem?_set_ne n1, List.getElem?_set_ne n2]
    exact o.ne j k p hj hk hjk e1 e2
theorem Sl.wr {K : PySem.W.Frag} {g : Gh} {H : Hp} {O : Nat → Bool} {σ σ' : St} {τ τ' : Ev} {ws : List Nat} (o : Sl K g H O σ τ) (hO : ∀ i ∈ ws, O i = false) (a : Wr K g ws σ τ σ' τ') : Sl K g H O σ' τ' := by
  induction a with
  | nil => exact o
  | set hi r _ ih => exact ih (o.set _ (hO _ hi) r)
/-! ### the mirror -/
def lcGo (tg : D → Ev → Option Ev) (ts : TD) (el : ED) (τ : Ev) : List D → M (List D)
  | [] => M.ret []
  | d :: ds => match tg d τ with
    | none => fun _ => .no
    | some τ1 => fun s => (ts τ1 s).bind fun b => match b with
      | true => fun s => (el τ1 s).bind fun y s => (lcGo tg ts el τ ds s).bind fun ys => M.ret (y :: ys)
      | false => lcGo tg ts el τ ds
def tYesD : TD := fun _ => M.ret true
def eLc (it : AD) (tg : D → Ev → Option Ev) (ts : TD) (el : ED) (vs : List Nat) : ED := fun τ s => (it τ s).bind fun ds => if small ds.length then fun s => (lcGo tg ts el (wipeD τ vs) ds s).bind fun ys => M.ret (.lst ys) else fun _ => .no
/-- nothing is raised in it -/
def noX {α : Type} : R α → R α
  | .exc _ _ => .no
  | r => r
def eLc0 (it : AD) (tg : D → Ev → Option Ev) (ts : TD) (el : ED) (vs : List Nat) : ED := fun τ s => (it τ s).bind fun ds => if small ds.length then fun s => noX ((lcGo tg ts el (wipeD τ vs) ds s).bind fun ys => M.ret (.lst ys)) else fun _ => .no
theorem PgK.seq {K : PySem.W.Frag} {T : List (Addr × Str)} {W : XK} {g : Gh} {H : Hp} {α β : Type} {C : β → Sto → Gh → Hp → Prop} {C' : α → Sto → Gh → Hp → Prop} {r : R α} {f : α → M β} (h : PgK K T W g H C (r.bind f))
    (k : ∀ a s1 g1 H1, r = .ok a s1 → Ext g H g1 H1 → WF K T g1 H1 s1 → PgK K T W g1 H1 C (f a s1) → C' a s1 g1 H1) : PgK K T W g H C' r := by
  cases r with
  | ok a s1 =>
    intro g1 H1 e1 w1
    refine k a s1 g1 H1 rfl e1 w1 ?_
    have h : PgK K T W g H C (f a s1) := h
    cases q : f a s1 with
    | ok b s2 => rw [q] at h; exact fun g2 H2 e2 w2 => h g2 H2 (e1.trans e2) w2
    | exc cl s2 => rw [q] at h; exact fun g2 H2 e2 w2 => h g2 H2 (e1.trans e2) w2
    | no => rw [q] at h; exact h
  | exc cl s1 => exact h
  | no => exact h
theorem PgK.seqA {K : PySem.W.Frag} {T : List (Addr × Str)} {W : XK} {g g3 : Gh} {H H3 : Hp} {α β : Type} {C : β → Sto → Gh → Hp → Prop} {C' : α → Sto → Gh → Hp → Prop} {r : R α} {f : α → M β} (e : Ext g H g3 H3) (h : PgK K T W g H C (r.bind f))
    (k : ∀ a s1 g1 H1, r = .ok a s1 → Ext g3 H3 g1 H1 → WF K T g1 H1 s1 → PgK K T W g H C (f a s1) → C' a s1 g1 H1) : PgK K T W g3 H3 C' r := by
  cases r with
  | ok a s1 => exact fun g1 H1 e1 w1 => k a s1 g1 H1 rfl e1 w1 h
  | exc cl s1 => exact fun g1 H1 e1 w1 => h g1 H1 (e.trans e1) w1
  | no => exact h
theorem PgK.mono {K : PySem.W.Frag} {T : List (Addr × Str)} {W : XK} {g g1 : Gh} {H H1 : Hp} {β : Type} {C : β → Sto → Gh → Hp → Prop} {r : R β} (e : Ext g H g1 H1) (h : PgK K T W g H C r) : PgK K T W g1 H1 C r := by
  cases r with
  | ok a s1 => exact fun g2 H2 e2 w2 => h g2 H2 (e.trans e2) w2
  | exc cl s1 => exact fun g2 H2 e2 w2 => h g2 H2 (e.trans e2) w2
  | no => exact h
/-- a state of the block: the new list stands at D -/
structure LcOk (K : PySem.W.Frag) (T : List (Addr × Str)) (g1 : Gh) (H1 : Hp) (D : Addr) (i : Nat) (g : Gh) (H : Hp) (s : Sto) (acc : List Mir.D) : Prop where
  ext : Ext g1 H1 g H
  wf : WF K T g H s
  gD : g.G D = none
  rD : ∀ n, g.r n ≠ some D
  at_ : ∃ xs, H D = some (.lst xs) ∧ Reps K g xs acc ∧ xs.length ≤ i
theorem LcOk.step {K : PySem.W.Frag} {T : List (Addr × Str)} {g1 g g' : Gh} {H1 H H' : Hp} {D : Addr} {i : Nat} {s s' : Sto} {acc : List Mir.D} (o : LcOk K T g1 H1 D i g H s acc) (e : Ext g H g' H') (w : WF K T g' H' s') : LcOk K T g1 H1 D i g' H' s' acc := by
  obtain ⟨xs, h1, h2, h3⟩ := o.at_
  have ne : H D ≠ none := by rw [h1]; simp
  refine ⟨o.ext.trans e, w, (e.newG D ne).trans o.gD, fun n q => ?_, xs, e.keep D _ h1 o.rD (fun ps => by simp), h2.mono e.le, h3⟩
  rcases e.newR n D q with z | z
  · exact o.rD n z
  · exact ne z
theorem lc_run {K : PySem.W.Frag} {T : List (Addr × Str)} {W : XK} {O : Nat → Bool} {g g1 : Gh} {H H1 : Hp} {s1 : Sto} {J : It} {ds : List D} {ws vs : List Nat} {fg : D → Ev → Option Ev} {ft : TD} {fe : ED} {σ : St} {τ : Ev} {Q : VK} {c : Ctx} (hcK : c.X.K = K) (hcT : c.T = T)
    (hws : ∀ i ∈ ws, i ∈ vs ∧ O i = false) (sl : Sl K g1 H1 O σ τ) (w1 : WF K T g1 H1 s1) (e1 : Ext g H g1 H1) (hJ : GivesX c g1 H1 J ds) (hz : small ds.length = true)
    (h : PgK K T W g1 H1 (fun d _ g' H' => ∀ v, RK .o K g' H H' v d → Q v H') ((lcGo fg ft fe (wipeD τ vs) ds s1).bind fun ys => M.ret (.lst ys))) (Dl : Addr) (hD : H1 Dl = none) :
    ∃ Wv : Nat → Nat → Hp → Prop, (∃ m, Wv 0 m (upd H1 Dl (.lst []))) ∧ ∀ i m H, Wv i m H →
      (J.stop i H ∧ Q (.ref Dl) H) ∨ (J.go i H ∧ ∃ Nx : Hp → Prop, (∀ H', Nx H' → ∃ m', m' < m ∧ Wv (i + 1) m' H') ∧ ∀ x H', J.yld i H x H' → tGK K T ws fg x (wipe σ vs) H' fun σ2 H2 => wipe σ2 vs = wipe σ vs ∧ tTK K T W O ft σ2 H2 fun b H3 =>
        if b = true then tEK .z K T W O fe σ2 H3 fun y H4 => ∃ acc, H4 Dl = some (.lst acc) ∧ acc.length < sizeLine ∧ Nx (upd H4 Dl (.lst (acc ++ [y]))) else Nx H3) := by
  subst hcK hcT
  have hz' : ds.length ≤ sizeLine := small_line hz
  have e4 : ∀ {α β γ : Type} (r : R α) (f : α → M β) (k : β → M γ), (r.bind f).bind k = r.bind fun a s => (f a s).bind k := fun r f k => by cases r <;> rfl
  refine ⟨fun i m H' => m = ds.length - i ∧ i ≤ ds.length ∧ ∃ g' s' acc, LcOk c.X.K c.T g1 H1 Dl i g' H' s' acc ∧ PgK c.X.K c.T W g1 H1 (fun d _ g'' H'' => ∀ v, RK .o c.X.K g'' H H'' v d → Q v H'') ((lcGo fg ft fe (wipeD τ vs) (ds.drop i) s').bind fun ys => M.ret (.lst (acc ++ ys))),
    ⟨ds.length, rfl, Nat.zero_le _, g1, s1, [], ⟨Ext.new hD, w1.new hD, w1.gne hD, fun n => w1.rne hD, [], upd_same, .nil, Nat.le_refl _⟩, h⟩, ?_⟩
  rintro i m H2 ⟨rfl, hi, g2, s2, acc, o2, h2⟩
  by_cases hlt : i < ds.length
  · rw [List.drop_eq_getElem_cons hlt] at h2
    unfold lcGo at h2
    obtain ⟨hgo, hy⟩ := hJ.go i ds[i] (List.getElem?_eq_getElem hlt) g2 H2 s2 o2.ext o2.wf
    refine .inr ⟨hgo, fun H' => ∃ g' s' acc, LcOk c.X.K c.T g1 H1 Dl (i + 1) g' H' s' acc ∧ PgK c.X.K c.T W g1 H1 (fun d _ g'' H'' => ∀ v, RK .o c.X.K g'' H H'' v d → Q v H'') ((lcGo fg ft fe (wipeD τ vs) (ds.drop (i + 1)) s').bind fun ys => M.ret (.lst (acc ++ ys))), fun H' hh => ⟨ds.length - (i + 1), by omega, rfl, hlt, hh⟩, fun x H' hx => ?_⟩
    obtain ⟨g3, e3, w3, r3⟩ := hy x H' hx
    have o3 := o2.step e3 w3
    cases z : fg ds[i] (wipeD τ vs) with
    | none => rw [z] at h2; exact h2.elim
    | some τ3 =>
      rw [z] at h2
      refine ⟨g3, s2, wipeD τ vs, ds[i], τ3, w3, r3, z, fun σ3 a => ?_⟩
      obtain ⟨k1, k2⟩ := a.keep
      refine ⟨?_, ?_⟩
      · refine wipe_eq (by rw [k1, wipe_length]) fun j hj => ?_
        rw [k2 j (fun q => hj (hws j q).1), wipe_at σ j vs hj]
      · have sl3 : Sl c.X.K g3 H' O σ3 τ3 := ((sl.ext o3.ext).wipe vs).wr (fun j hj => (hws j hj).2) a
        have h2 : PgK c.X.K c.T W g1 H1 _ (((ft τ3 s2).bind fun b => match b with
          | true => fun s => (fe τ3 s).bind fun y s => (lcGo fg ft fe (wipeD τ vs) (ds.drop (i + 1)) s).bind fun ys => M.ret (y :: ys)
          | false => lcGo fg ft fe (wipeD τ vs) (ds.drop (i + 1))).bind fun ys => M.ret (D.lst (acc ++ ys))) := h2
        rw [e4] at h2
        refine ⟨g3, s2, τ3, w3, sl3, PgK.seqA o3.ext h2 fun b s4 g4 H4 _ e4' w4 h4 => ?_⟩
        have o4 := o3.step e4' w4
        cases b with
        | false =>
          refine iteF ?_
          obtain ⟨xs, a1, a2, a3⟩ := o4.at_
          exact ⟨g4, s4, acc, ⟨o4.ext, o4.wf, o4.gD, o4.rD, xs, a1, a2, Nat.le_succ_of_le a3⟩, h4⟩
        | true =>
          refine iteT ?_
          have h4 : PgK c.X.K c.T W g1 H1 _ (((fe τ3 s4).bind fun y s => (lcGo fg ft fe (wipeD τ vs) (ds.drop (i + 1)) s).bind fun ys => M.ret (y :: ys)).bind fun ys => M.ret (D.lst (acc ++ ys))) := h4
          rw [e4] at h4
          refine ⟨g4, s4, τ3, w4, sl3.ext e4', PgK.seqA o4.ext h4 fun y s5 g5 H5 _ e5 w5 h5 v rv => ?_⟩
          have o5 := o4.step e5 w5
          obtain ⟨xs, a1, a2, a3⟩ := o5.at_
          refine ⟨xs, a1, by omega, g5, s5, acc ++ [y], ⟨o5.ext.mut hD, o5.wf.mut a1 (.inl ⟨xs, rfl⟩) o5.gD o5.rD, o5.gD, o5.rD, xs ++ [v], upd_same, a2.append (.cons rv .nil), by rw [List.length_append]; simp; omega⟩, ?_⟩
          rw [e4] at h5
          have e6 : (fun (a : List D) (s : Sto) => ((M.ret (y :: a) : M (List D)) s).bind fun ys => M.ret (D.lst (acc ++ ys))) = fun ys => M.ret (D.lst (acc ++ [y] ++ ys)) := funext fun a => funext fun s => by
            show R.ok (D.lst (acc ++ y :: a)) s = R.ok (D.lst (acc ++ [y] ++ a)) s
            rw [List.append_assoc]
            rfl
          rw [e6] at h5
          exact h5
  · have e : i = ds.length := by omega
    subst e
    rw [List.drop_length] at h2
    refine .inl ⟨hJ.stop g2 H2 s2 o2.ext o2.wf, ?_⟩
    obtain ⟨xs, a1, a2, a3⟩ := o2.at_
    have h2 : PgK c.X.K c.T W g1 H1 _ (R.ok (D.lst (acc ++ [])) s2) := h2
    rw [List.append_nil] at h2
    exact h2 g2 H2 o2.ext o2.wf (.ref Dl) (.inr ⟨.lst o2.gD o2.rD a1 a2, Dl, rfl, e1.fresh hD⟩)
/-! ### the rules -/
/-- the block's context -/
abbrev blkC (c : Ctx) (W : XK) (xe : Value → Shared → Prop) (s : Shared) (H : Hp) (scope : Scope) (C : Addr) (cl : List (Str × Addr)) (fp : List Addr) : Ctx := ⟨(c.X.blk s H scope (compEnvC scope cl C c.X.env) fp).wish xe, c.T, W, c.O⟩
abbrev W0 : XK := fun _ _ _ => False
section
variable {c : Ctx}
theorem noX_pg {g : Gh} {H : Hp} {β : Type} {C : β → Sto → Gh → Hp → Prop} {r : R β} (h : Pg c g H C (noX r)) : PgK c.X.K c.T W0 g H C r := by
  cases r with
  | ok a s => exact h
  | exc cl s => exact h.elim
  | no => exact h
theorem evs_lc0 {iter tg : Expr} {fi : AD} {ws vs : List Nat} {fg : D → Ev → Option Ev} {ft : TD} {fe : ED} {wi : TI} (qi : ∀ g H s σ τ R, Ok c g H s σ τ → Pg c g H (fun ds _ g' H' => ∀ J, GivesX c g' H' J ds → R J H') (fi τ s) → wi σ H R)
    (hws : ∀ i ∈ ws, i ∈ vs ∧ c.O i = false) : Evs .o c (tLc wi (tGK c.X.K c.T ws fg) (tTK c.X.K c.T W0 c.O ft) (tEK .z c.X.K c.T W0 c.O fe) vs) (eLc0 fi fg ft fe vs) := fun g H s σ τ Q o h =>
  qi g H s σ τ _ o (Pg.seq h fun ds s1 g1 H1 _ e1 w1 h1 J hJ Dl hD => by
    by_cases hz : small ds.length = true
    · rw [if_pos hz] at h1
      exact lc_run (c := c) rfl rfl hws (o.sl.ext e1) w1 e1 hJ hz (noX_pg h1) Dl hD
    · rw [if_neg hz] at h1
      exact h1.elim)
/-- a comprehension, as a value and as what a name is set to -/
def DLc (c : Ctx) (e : Expr) (f : ED) : Prop := ∃ t : TE, PE c.X e t ∧ Evs .o c t f ∧ ∀ (i : Nat) (y : Str) (py spos : Pos), c.X.N.Nodup → c.X.N[i]? = some y → c.X.env.scope.names.lookup y = some .local → swapsWith e (some (.Name y py)) spos.line c.X.env = pure true → PS c.X (.Assign [.Name y py] e spos) (tAsg t (gName i))
theorem DLc.de {e : Expr} {f : ED} (h : DLc c e f) : DE .o c e f := by
  obtain ⟨t, p, q, _⟩ := h
  exact ⟨t, p, q⟩
theorem dlc_0 {elt tg iter : Expr} {ifs : List Expr} {scope : Scope} {pos : Pos} {fi : AD} {ws : List Nat} {fg : D → Ev → Option Ev} {ft : TD} {fe : ED} (own : List (Str × Nat)) (hN : c.X.N.Nodup) (hi : DIx c tg iter fi)
    (hg : ∀ s H C cl fp, DG (blkC c W0 (fun _ _ => False) s H scope C cl fp) tg ws fg)
    (ht : ∀ s H C cl fp, PTs (blkC c W0 (fun _ _ => False) s H scope C cl fp).X ifs (tTK c.X.K c.T W0 c.O ft))
    (he : ∀ s H C cl fp, DE .z (blkC c W0 (fun _ _ => False) s H scope C cl fp) elt fe)
    (ok : L2.blkC c.X.N c.X.env.scope scope own = true := by kernel_rfl) (hws : (ws.all fun i => (own.map (·.2)).contains i && !c.O i) = true := by rfl) (hc : c.X.calm = true := by rfl) (hs : ∀ x, foldedSetIterable iter c.X.env x = pure x := by intro _; rfl) :
    DLc c (.ListComp elt [⟨tg, iter, ifs, 0⟩] scope pos) (eLc0 fi fg ft fe (own.map (·.2))) := by
  obtain ⟨wi, pi, qi⟩ := hi
  have hws' : ∀ i ∈ ws, i ∈ own.map (·.2) ∧ c.O i = false := fun i hi => by
    have := Bool.and_eq_true_iff.mp (List.all_eq_true.mp hws i hi)
    exact ⟨List.contains_iff_mem.mp this.1, by simpa using this.2⟩
  have bo := blkOk_by ok
  refine ⟨_, pe_lc hc hN pi bo (fun s H C cl fp => (hg s H C cl fp).can) (fun s H C cl fp => ht s H C cl fp) (fun s H C cl fp => (he s H C cl fp).can) hs, evs_lc0 (iter := iter) (tg := tg) qi hws', fun i y py spos hN hy hl hsw => ?_⟩
  exact ps_setLc hc hN hy hl hsw pi bo (fun s H C cl fp => (hg s H C cl fp).can) (fun s H C cl fp => ht s H C cl fp) (fun s H C cl fp => (he s H C cl fp).can) hs
theorem pts_no {K : PySem.W.Frag} {T : List (Addr × Str)} {W : XK} {O : Nat → Bool} {X : Cx} : PTs X [] (tTK K T W O tYesD) := ⟨fun pins s σ H Q I h => pts_nil.run pins s σ H Q I (by
  obtain ⟨g, st, τ, w, _, h⟩ := h
  exact h g H (Ext.refl _ _) w)⟩
theorem pts_if {e : Expr} {f : TD} (h : DT c e f) : PTs c.X [e] (tTK c.X.K c.T c.W c.O f) := pts_one h.can
/-- name = [..] -/
theorem ds_setLc {i : Nat} {y : Str} {py spos : Pos} {e : Expr} {f : ED} (hN : c.X.N.Nodup) (h : DLc c e f) (hsw : swapsWith e (some (.Name y py)) spos.line c.X.env = pure true) (hO : c.O i = false := by rfl) (hy : c.X.N[i]? = some y := by rfl) (hl : c.X.env.scope.names.lookup y = some .local := by rfl) : DS c (.Assign [.Name y py] e spos) (sSet i f) := by
  obtain ⟨t, p, q, r⟩ := h
  exact ⟨_, r i y py spos hN hy hl hsw, evs_set hO (evs_oz q)⟩
theorem ds_setLcO {i : Nat} {y : Str} {py spos : Pos} {e : Expr} {f : ED} (hN : c.X.N.Nodup) (h : DLc c e f) (hsw : swapsWith e (some (.Name y py)) spos.line c.X.env = pure true) (hO : c.O i = true := by rfl) (hy : c.X.N[i]? = some y := by rfl) (hl : c.X.env.scope.names.lookup y = some .local := by rfl) : DS c (.Assign [.Name y py] e spos) (sSetO i f) := by
  obtain ⟨t, p, q, r⟩ := h
  exact ⟨_, r i y py spos hN hy hl hsw, evs_setO hO q⟩
end
end Mir

set_option Elab.async false
set_option linter.all false
set_option maxRecDepth 100000
set_option maxHeartbeats 4000000
/-! Mir, part X: a list comprehension out of which a callee's exception may fly. -/
namespace Mir
open PySem PySem.Spec PyProof.Rows L2
/-- what is wished of an exception that a call within the block lets out -/
def xeB (X : Cx) (E : XK) (s : Shared) (H : Hp) (scope : Scope) (cl : List (Str × Addr)) (C : Addr) (fp : List Addr) : Value → Shared → Prop := fun u s' =>
  ∃ pins σ H1 s1, Inv (X.blk s H scope (compEnvC scope cl C X.env) fp) pins σ H1 s1 ∧ L2N.CX X.prog X.w X.stack H1 s1 E u s'
theorem passB {X : Cx} {E : XK} {s : Shared} {H : Hp} {scope : Scope} {cl : List (Str × Addr)} {C : Addr} {fp : List Addr} :
    Passes (L2N.CX X.prog X.w) ((X.blk s H scope (compEnvC scope cl C X.env) fp).wish (xeB X E s H scope cl C fp)) E := fun pins σ H1 s1 e s' I c => ⟨pins, σ, H1, s1, I.unwish, c⟩
theorem hide1_get {B : Heap} {C b : Addr} {o : Obj} (h : B.get? b = some o) (n : b ≠ C) : (PySem.W.hideAll B [C]).get? b = some o := PySem.W.hideAll_get _ h (by simpa using n)
theorem of_hide1 {B : Heap} {C b : Addr} {o : Obj} (h : (PySem.W.hideAll B [C]).get? b = some o) : B.get? b = some o ∧ b ≠ C := by
  refine ⟨PySem.W.of_hideAll _ h, fun q => ?_⟩
  rw [q, PySem.W.hideAll_none _ (by simp)] at h
  cases h
theorem comp_out {X : Cx} {E : XK} {pins : List (Addr × Obj)} {σ : St} {H3 : Hp} {s3 s' : Shared} {scope : Scope} {cl : List (Str × Addr)} {fp : List Addr} {u : Value} (hst : X.stack = X.env :: X.outer) (hfr : X.env.frame = some X.env.locals)
    (tk : L2N.Takes X fun cls d _ H => E cls d H) (I3 : Inv X pins σ H3 s3) (f3 : ∀ b ∈ fp, FpOk X pins H3 b ∧ b < s3.heap.objs.size) (x : xeB X E s3 H3 scope cl s3.heap.objs.size fp u s') :
    notedBy (model X.prog X.w) X.A (compEnvC scope cl s3.heap.objs.size X.env) (CompFails (model X.prog X.w) X.A X.xe (compEnvC scope cl s3.heap.objs.size X.env)) u s' := by
  generalize hC : s3.heap.objs.size = C at x ⊢
  obtain ⟨pB, σB, HB, sB, IB, a, B, H', cls, d, rfl, fl, hok, ub, na, os, ag, hE⟩ := x
  have hcf : (compEnvC scope cl C X.env).frame = X.env.frame := rfl
  have hA : X.A.frames = some (X.env :: X.outer) := by rw [I3.ok.frames, hst]
  have nC : C ∉ frs X.stack := fun hm => by
    obtain ⟨_, o, ho, _⟩ := I3.stack.mem hm
    have := Heap.lt_size ho
    rw [hC] at this
    exact Nat.lt_irrefl _ this
  obtain ⟨m, hn, _⟩ := IB.loc
  have hn : sB.heap.Ns C m := hn
  obtain ⟨oC, es, ep, hoC, hdC, rC⟩ := hn
  have hBC : HB C = none := IB.free
  have hCB : B.get? C = some oC := ub.keep C oC hoC hBC nC
  have hHC : H' C = none := ub.free C oC hoC hBC
  have fl' := fl
  rw [hst] at fl
  show wpAny _ _ (noteFrame (.ref a) (compEnvC scope cl C X.env)) _ _ s'
  rw [noteFrame_env _ hcf]
  refine PXN.looks_onZ L2N.Zn.steady hA hfr fl fun h1 held up => ?_
  obtain ⟨st1, bn, ff, oe, vs, T, oT, ts, he, hz, hd, h1T, hnT, hTe, hT, hdT, h3T⟩ := held
  have hC1 : h1.get? C = some oC := st1 C oC hCB
  have naC : a ≠ C := fun q => by
    rw [q, hC1] at he; cases he; rw [hdC] at hd; cases hd
  have nTC : T ≠ C := fun q => by
    rw [q, hC1] at hT; cases hT; rw [hdC] at hdT; cases hdT
  refine ⟨m, ⟨oC, es, ep, hC1, hdC, rC⟩, fun h2 m2 hn2 sb => ?_⟩
  have sb2 : ∀ b, b ≠ C → h2.get? b = h1.get? b := fun b hb => sb.2 b hb
  have st2 : (PySem.W.hideAll B [C]).StaysIn h2 := fun b o e => by
    obtain ⟨e1, e2⟩ := of_hide1 e
    rw [sb2 b e2]; exact st1 b o e1
  have ff2 : h2.FunFrames (PySem.W.hideAll B [C]) (X.env :: X.outer) := by
    have q : h2.FunFrames B (X.env :: X.outer) := by
      have key : ∀ l : List Env, (∀ b ∈ frs l, b ≠ C) → h1.FunFrames B l → h2.FunFrames B l := by
        intro l
        induction l with
        | nil => intro _ _; trivial
        | cons env r ih =>
          intro hs hl
          obtain ⟨hk, ⟨L, o, hf, hnn, ho, hdd⟩, hr⟩ := hl
          have hL : L ∈ frs (env :: r) := by unfold frs; rw [List.filterMap_cons, hf]; exact List.mem_cons_self
          refine ⟨hk, ⟨L, o, hf, hnn, by rw [sb2 L (hs L hL)]; exact ho, hdd⟩, ih (fun b hb => hs b ?_) hr⟩
          unfold frs
          rw [List.filterMap_cons, hf]
          exact List.mem_cons_of_mem _ hb
      refine key _ (fun b hb q => nC ?_) ff
      rw [hst, ← q]
      exact hb
    refine funFrames_none q fun L hL => ?_
    cases z : (PySem.W.hideAll B [C]).get? L with
    | none => rfl
    | some o =>
      obtain ⟨_, h'⟩ := q.mem hL
      have := (of_hide1 z).1
      obtain ⟨e0, _⟩ := q.mem hL
      rw [e0] at this; cases this
  have tr2 : HandSPX.TracedZ h2 (PySem.W.hideAll B [C]) a (L2N.Zn cls d) (rawInt X.env.locals) := by
    refine ⟨oe, vs, T, oT, ts, by rw [sb2 a naC]; exact he, hz, hd, h1T, ?_, hTe, by rw [sb2 T nTC]; exact hT, hdT, h3T⟩
    cases z : (PySem.W.hideAll B [C]).get? T with
    | none => rfl
    | some o => have := (of_hide1 z).1; rw [hnT] at this; cases this
  have bn2 : (PySem.W.hideAll B [C]).get? a = none := by
    cases z : (PySem.W.hideAll B [C]).get? a with
    | none => rfl
    | some o => have := (of_hide1 z).1; rw [bn] at this; cases this
  have held2 : HandSPX.HeldZ (PySem.W.hideAll B [C]) (X.env :: X.outer) a (L2N.Zn cls d) X.env.locals h2 := ⟨st2, bn2, ff2, tr2⟩
  unfold PySem.passOn
  refine wpAny_bind (wpAny_field (show h2.get? a = some oe by rw [sb2 a naC]; exact he) hd h1T ?_)
  rw [if_neg (show ¬ ((Value.ref T == Value.none) = true) from by simp), hcf, hfr]
  refine wpAny_bind (HandSPX.setFlight_onZ held2 fun h3 held3 up3 => wpAny_throw ?_)
  -- the def's state without the exception
  obtain ⟨G, g1, g2⟩ := restrict s'.heap fun b => ((PySem.W.hideAll B [C]).get? b).isSome || decide (b ∈ frs X.stack)
  have stB : B.StaysIn s'.heap := fl'.1
  have gB : ∀ b o, B.get? b = some o → b ≠ C → G.get? b = some o := fun b o e n => by
    rw [g1 b (by simp [hide1_get e n])]
    exact stB b o e
  have gF : ∀ b, b ∈ frs X.stack → G.get? b = s'.heap.get? b := fun b hb => g1 b (by simp [hb])
  have og : ∀ b o, G.get? b = some o → s'.heap.get? b = some o ∧ (((PySem.W.hideAll B [C]).get? b).isSome = true ∨ b ∈ frs X.stack) := fun b o e => by
    cases q : (((PySem.W.hideAll B [C]).get? b).isSome || decide (b ∈ frs X.stack)) with
    | false => rw [g2 b q] at e; cases e
    | true =>
      rw [g1 b q] at e
      exact ⟨e, by simpa [Bool.or_eq_true] using q⟩
  have lt3 : ∀ b o, s3.heap.get? b = some o → b ≠ C := fun b o e q => by
    have := Heap.lt_size e
    rw [q, hC] at this
    exact Nat.lt_irrefl _ this
  have ib := IB.base
  have un : Un (frs X.stack) fp H3 H' s3.heap G := by
    refine ⟨fun b o e n hb hx => ?_, fun b o e n hb hx => ?_, fun b o e n hx => ?_, fun b o e hx => ?_, fun b xs e => ub.tups b xs (ib.tups b xs e), fun b o xs e => ub.frzs b o xs (ib.frzs b o xs e), fun b ps e => ?_⟩
    · exact gB b o (ub.keep b o (ib.keep b o e n hb hx) (ib.free b o e n hx) hb) (lt3 b o e)
    · obtain ⟨sl, q⟩ := ib.slot b o e n hb hx
      obtain ⟨sl', q'⟩ := ub.slot b _ q hb
      exact ⟨sl', by rw [gF b hb]; exact q'⟩
    · obtain ⟨o', q⟩ := ib.there b o e hx
      exact ub.free b o' q (ib.free b o e n hx)
    · obtain ⟨o', q⟩ := ib.there b o e hx
      by_cases hb : b ∈ frs X.stack
      · obtain ⟨sl', q'⟩ := ub.slot b _ q hb
        exact ⟨_, by rw [gF b hb]; exact q'⟩
      · obtain ⟨o2, q2⟩ := ub.there b o' q hb
        exact ⟨o2, gB b o2 q2 (lt3 b o e)⟩
    · obtain ⟨m1, e1⟩ := ib.tbls b ps e
      obtain ⟨m2, e2⟩ := ub.tbls b _ e1
      exact ⟨m1 ++ m2, by rw [e2, Array.append_assoc]⟩
  have hokG : HOk X.prog X.w H' G := fun b o q => (hok b o q).stay (fun c u hc r => gB c u r fun z => by
    rcases hc with hc | hc
    · rw [← hc, z, hHC] at q; cases q
    · rw [z, hHC] at hc; cases hc) (fun _ r => r) fun _ _ r => r
  have IX : Inv X pins σ H' { s3 with heap := G, gens := s'.gens, drawn := s'.drawn, toks := s'.toks } := I3.call (ch := fp) un hokG ag fun b hb => ⟨(f3 b hb).1.2.2.2.1, (f3 b hb).1.2.1, (f3 b hb).1.2.2.2.2.1, (f3 b hb).1.2.2.2.2.2⟩
  refine tk _ _ ⟨a, PySem.W.hideAll B [C], _, pins, σ, H', cls, d, rfl, IX, fun b o e hb => ?_, fun b o e hnf => ?_, .inr (.inr (by rw [hst]; exact held3)), na, ?_, ag, hE⟩
  · obtain ⟨e', h⟩ := og b o e
    rcases h with h | h
    · obtain ⟨o', q⟩ := Option.isSome_iff_exists.mp h
      have z := stB b o' (of_hide1 q).1
      rw [e'] at z; cases z
      exact q
    · exact absurd h hb
  · have e : G.get? b = some o := e
    obtain ⟨e', h⟩ := og b o e
    rcases h with h | h
    · obtain ⟨o', q⟩ := Option.isSome_iff_exists.mp h
      have z := stB b o' (of_hide1 q).1
      rw [e'] at z; cases z
      exact ⟨o.slots, held3.1 b o q⟩
    · obtain ⟨sl1, k1⟩ := up b o e' hnf
      have nb : b ≠ C := fun q => nC (by rw [← q]; exact h)
      rw [← sb2 b nb] at k1
      obtain ⟨sl2, k2⟩ := up3 b _ k1 hnf
      exact ⟨sl2, k2⟩
  · show s'.os = s3.os
    rw [os]
    exact IB.os
/-- the comprehension's run: as in the library's own one, with the exceptions of its calls let out -/
theorem lc_coreX {X : Cx} {E : XK} {pins : List (Addr × Obj)} {s : Shared} {σ : St} {H : Hp} {Q : VK} {elt tg iter : Expr} {ifs : List Expr} {scope : Scope} {own : List (Str × Nat)} {pos pos' : Pos} {wi : TI} {g : TG} {tt : TT} {te : TE} {use : Option (Value → Sem Unit)} {Qf : Value → Shared → Prop}
    (hst : X.stack = X.env :: X.outer) (hfr : X.env.frame = some X.env.locals) (tk : L2N.Takes X fun cls d _ H => E cls d H) (hc : X.calm = true) (hN : X.N.Nodup) (I : Inv X pins σ H s) (hi : PI X tg iter wi) (ok : BlkOk X.N X.env.scope scope own)
    (hg : ∀ (s : Shared) (H : Hp) (C : Addr) (cl : List (Str × Addr)) (fp : List Addr), PG ((X.blk s H scope (compEnvC scope cl C X.env) fp).wish (xeB X E s H scope cl C fp)) tg g)
    (ht : ∀ (s : Shared) (H : Hp) (C : Addr) (cl : List (Str × Addr)) (fp : List Addr), PTs ((X.blk s H scope (compEnvC scope cl C X.env) fp).wish (xeB X E s H scope cl C fp)) ifs tt)
    (he : ∀ (s : Shared) (H : Hp) (C : Addr) (cl : List (Str × Addr)) (fp : List Addr), PE ((X.blk s H scope (compEnvC scope cl C X.env) fp).wish (xeB X E s H scope cl C fp)) elt te) (hs : ∀ x, foldedSetIterable iter X.env x = pure x)
    (h : tLc wi g tt te (own.map (·.2)) σ H Q)
    (hRR : ∀ D C cenv s' m H', cenv.locals = C → Inv X pins σ H' s' → Q (.ref D) H' → s'.heap.Ns C m → FpOk X pins H' C → compEnds (model X.prog X.w) X.A X.xe use Qf (.ref D) cenv (.ok .next) s') :
    wpAny (model X.prog X.w) X.A (comprehension (.ListComp elt [⟨tg, iter, ifs, 0⟩] scope pos) scope X.env pos' (newList []) false (eval iter X.env) use) Qf X.xe s := by
  have free : ∀ y ∈ scope.names, y.2 = .free → ∃ c, X.env.cells.lookup y.1 = some c := fun y hy e =>
    (ok.free y hy e).elim (fun k => I.ok.has _ (.inl k)) fun k => I.ok.has _ (.inr k)
  refine comprehension_at (use := use) rfl hs (closure_ok free) ok.kind (fun y hy e => by rw [ok.uniq y hy, e]) (thn (hi.run pins s σ H _ I h) fun xv s1 hx => thn hx fun itv s2 h2 => ?_)
  obtain ⟨it, fp, tn, J, H2, rfl, I2, T, st2, f2, q⟩ := h2
  refine wpAny_newObj_type (newEnv_comp ?_) (by show 0 ≤ sizeLine; decide)
  have hDn : H2 s2.heap.objs.size = none := I2.hok.fresh (Nat.le_refl _)
  obtain ⟨W, ⟨m0, w0⟩, turn⟩ := q s2.heap.objs.size hDn
  generalize hD : s2.heap.objs.size = D at hDn w0 turn ⊢
  -- with the new list
  obtain ⟨s3, hs3⟩ : ∃ s3 : Shared, s3 = { s2 with heap := s2.heap.push { cls := .type "list", data := .seq ([] : List Value).toArray } } := ⟨_, rfl⟩
  have h3 : s3.heap = s2.heap.push { cls := .type "list", data := .seq ([] : List Value).toArray } := by rw [hs3]
  have I3 : Inv X pins σ (upd H2 D (.lst [])) s3 := by
    rw [hs3]
    refine I2.laid (t' := s2.toks) (fun b o e => Heap.get?_push_of_some _ e) (Nat.le_of_eq hD) ⟨Nat.zero_le _, [], 0, .nil, ?_⟩
    rw [← hD]
    exact Heap.get?_push_size _ rfl
  have f3 : ∀ b ∈ fp, FpOk X pins (upd H2 D (.lst [])) b ∧ b < s3.heap.objs.size := fun b hb => by
    obtain ⟨o, e, _⟩ := T.obj _ _ st2 b hb
    have hlt := Heap.lt_size e
    refine ⟨⟨?_, (f2 b hb).2⟩, by rw [h3, Heap.size_push]; exact Nat.lt_succ_of_lt hlt⟩
    rw [upd_ne (by rw [← hD]; exact Nat.ne_of_lt hlt)]
    exact (f2 b hb).1
  have st3 : tn 0 s3.heap := T.keep _ _ _ st2 fun b _ o e => by rw [h3]; exact Heap.get?_push_of_some _ e
  have I4 := block_start I3 ok hN f3
  obtain ⟨H3, hH3⟩ : ∃ H3, H3 = upd H2 D (.lst []) := ⟨_, rfl⟩
  obtain ⟨cl, hcl⟩ : ∃ cl, cl = cellsFrom (s3.heap.objs.size + 1) scope.names (cloFrom X.env.cells scope.names []) := ⟨_, rfl⟩
  obtain ⟨s4, hs4⟩ : ∃ s4 : Shared, s4 = { s3 with heap := pushCells (s3.heap.push { cls := .type "dict", data := .dict #[] }) scope.names } := ⟨_, rfl⟩
  rw [← hH3] at I3 I4 f3 w0
  rw [← hcl, ← hs4] at I4
  have pg := hg s3 H3 s3.heap.objs.size cl fp
  have pt := ht s3 H3 s3.heap.objs.size cl fp
  have pe := he s3 H3 s3.heap.objs.size cl fp
  have goal : codeAny (model X.prog X.w) X.A (.compStart (.ListComp elt [⟨tg, iter, ifs, 0⟩] scope pos) 0 (.ref it) (.ref D) (compEnvC scope cl s3.heap.objs.size X.env)) (compEnds (model X.prog X.w) X.A X.xe use Qf (.ref D) (compEnvC scope cl s3.heap.objs.size X.env)) s4 := by
    have nfp : ∀ b ∈ fp, H3 b = none := fun b hb => (f3 b hb).1.1
    have st4 : tn 0 s4.heap := T.keep _ _ _ st3 fun b _ o e => by rw [hs4]; exact pushCells_keeps _ _ _ _ (Heap.get?_push_of_some _ e)
    obtain ⟨XB, hXB⟩ : ∃ XB, XB = X.blk s3 H3 scope (compEnvC scope cl s3.heap.objs.size X.env) fp := ⟨_, rfl⟩
    rw [← hXB] at I4 pg pt pe
    have stat : ∀ {σ' : St} {H' : Hp} {s' : Shared}, Inv XB [] σ' H' s' → (∀ b ∈ fp, H' b = none) → ∀ b ∈ fp, FpOk XB [] H' b := fun {σ' H' s'} I' hn b hb => by
      subst hXB
      exact ⟨hn b hb, (I'.ok.exf b hb).1, I'.ok.exfs b hb, .inl hb, fun x c e => (I'.ok.exf b hb).2 x c e, fun p hp => absurd (show p ∈ ([] : List (Addr × Obj)) ++ [] from hp) (by simp)⟩
    have outB : ∀ u s', xeB X E s3 H3 scope cl s3.heap.objs.size fp u s' → notedBy (model X.prog X.w) X.A (compEnvC scope cl s3.heap.objs.size X.env) (fun e s'' => compEnds (model X.prog X.w) X.A X.xe use Qf (.ref D) (compEnvC scope cl s3.heap.objs.size X.env) (.error e) s'') u s' := fun u s' hx => by
      have z := comp_out hst hfr tk I3 f3 hx
      cases use <;> exact z
    have pX : XB.prog = X.prog ∧ XB.w = X.w ∧ XB.K = X.K ∧ XB.calm = X.calm ∧ XB.A = X.A ∧ XB.env = compEnvC scope cl s3.heap.objs.size X.env := by subst hXB; exact ⟨rfl, rfl, rfl, rfl, rfl, rfl⟩
    have loop : codeAny (model X.prog X.w) X.A (.compLoop (.ListComp elt [⟨tg, iter, ifs, 0⟩] scope pos) 0 (.ref it) (.ref D) (compEnvC scope cl s3.heap.objs.size X.env)) (compEnds (model X.prog X.w) X.A X.xe use Qf (.ref D) (compEnvC scope cl s3.heap.objs.size X.env)) s4 := by
      refine compLoop_any (fun n s' => ∃ i H', Inv XB [] (wipe σ (own.map (·.2))) H' s' ∧ tn i s'.heap ∧ (∀ b ∈ fp, H' b = none) ∧ W i n H') ?_ m0 ⟨0, H3, I4, st4, nfp, w0⟩
      rintro n s5 ⟨i, H5, I5, st5, n5, w5⟩
      rcases turn i n H5 w5 with ⟨stop, qq⟩ | ⟨go, Nx, hNx, step⟩
      · have td := T.done XB pX.1 pX.2.1 pX.2.2.1 (pX.2.2.2.1.trans hc) i [] s5 _ H5 (fun _ _ => False) I5 (stat I5 n5) st5 stop
        rw [pX.2.2.2.2.1] at td
        refine thnF td fun r s6 ⟨hr, I6⟩ => ?_
        subst hr
        subst hXB
        have I7 : Inv X pins σ H5 s6 := I3.call' (ch := fp) I6.os I6.base I6.hok I6.bare fun b hb => ⟨(f3 b hb).1.2.2.2.1, (f3 b hb).1.2.1, (f3 b hb).1.2.2.2.2.1, (f3 b hb).1.2.2.2.2.2⟩
        obtain ⟨m, hn, _⟩ := I6.loc
        exact hRR D s3.heap.objs.size _ s6 m H5 rfl I7 qq hn (I3.fpOk (Nat.le_refl _) I6.free)
      · have ti := T.item XB pX.1 pX.2.1 pX.2.2.1 (pX.2.2.2.1.trans hc) i [] s5 _ H5 (fun _ _ => False) I5 (stat I5 n5) st5 go
        rw [pX.2.2.2.2.1] at ti
        refine thnF ti fun r s6 ⟨u, hr, h6⟩ => ?_
        subst hr
        refine thnF h6 fun _ s7 ⟨x, H7, I7, r7, y7, st7, n7⟩ => ?_
        have I7' := I7.pinned (stat I7 n7) (T.obj _ _ st7)
        have fin : ∀ {s' : Shared} {σ' : St} {H' : Hp}, wipe σ' (own.map (·.2)) = wipe σ (own.map (·.2)) → Inv XB ([] ++ pinsAt fp s7.heap) σ' H' s' → Nx H' → ∃ m, m < n ∧ ∃ i H', Inv XB [] (wipe σ (own.map (·.2))) H' s' ∧ tn i s'.heap ∧ (∀ b ∈ fp, H' b = none) ∧ W i m H' := fun {s' σ' H'} hw I' nx => by
          obtain ⟨m', hm, w'⟩ := hNx H' nx
          have pin' : ∀ b ∈ fp, ∀ o, s7.heap.get? b = some o → s'.heap.get? b = some o ∧ H' b = none := fun b hb o e =>
            let z := I'.pin (b, o) (List.mem_append_right _ (List.mem_append_right _ (mem_pinsAt hb e)))
            ⟨z.1, z.2.1⟩
          refine ⟨m', hm, i + 1, H', (I'.unpinned (pins := [])).weak (by rw [← hw, wipe_length]) (fun j v e => ?_), T.keep _ _ _ st7 fun b hb o e => (pin' b hb o e).1, fun b hb => ?_, w'⟩
          · rw [← hw] at e
            exact (wipe_some e).1
          · obtain ⟨o, e, _⟩ := T.obj _ _ st7 b hb
            exact (pin' b hb o e).2
        subst hXB
        refine wpAny_mono (pg.run _ s7 _ H7 x u _ (I7'.wish _) r7 (step x H7 y7)) (fun _ s8 ⟨σ8, H8, I8, hw8, q8⟩ => ?_) outB
        refine wpAny_mono (pt.run _ s8 σ8 H8 _ I8 q8) (fun b s9 ⟨H9, I9, q9⟩ => ?_) outB
        cases b with
        | false =>
          simp only [Bool.false_eq_true, if_false] at q9 ⊢
          exact fin hw8 I9.unwish q9
        | true =>
          simp only [if_true] at q9 ⊢
          refine wpAny_mono (pe.run _ s9 σ8 H9 _ I9 q9) (fun z s10 ⟨yv, H10, I10, r10, acc, hD10, hz10, nx⟩ => ?_) outB
          exact app_ok (X := X.blk s3 H3 scope (compEnvC scope cl s3.heap.objs.size X.env) fp) I10.unwish hD10 hz10 r10 fun s11 I11 => fin hw8 I11 nx
    exact codeAny_compStart_list loop (T.self X.A 0 _ _ _ st4 loop)
  rw [hs4, hcl, hs3] at goal
  rw [hs3] at *
  exact goal
/-! ### the rule -/
section
variable {c : Ctx}
theorem evs_lcX {iter tg : Expr} {fi : AD} {ws vs : List Nat} {fg : D → Ev → Option Ev} {ft : TD} {fe : ED} {wi : TI} (qi : ∀ g H s σ τ R, Ok c g H s σ τ → Pg c g H (fun ds _ g' H' => ∀ J, GivesX c g' H' J ds → R J H') (fi τ s) → wi σ H R)
    (hws : ∀ i ∈ ws, i ∈ vs ∧ c.O i = false) : Evs .o c (tLc wi (tGK c.X.K c.T ws fg) (tTK c.X.K c.T c.W c.O ft) (tEK .z c.X.K c.T c.W c.O fe) vs) (eLc fi fg ft fe vs) := fun g H s σ τ Q o h =>
  qi g H s σ τ _ o (Pg.seq h fun ds s1 g1 H1 _ e1 w1 h1 J hJ Dl hD => by
    by_cases hz : small ds.length = true
    · rw [if_pos hz] at h1
      exact lc_run (c := c) rfl rfl hws (o.sl.ext e1) w1 e1 hJ hz (pgK.mp h1) Dl hD
    · rw [if_neg hz] at h1
      exact h1.elim)
theorem dlc_X {elt tg iter : Expr} {ifs : List Expr} {scope : Scope} {pos : Pos} {fi : AD} {ws : List Nat} {fg : D → Ev → Option Ev} {ft : TD} {fe : ED} (own : List (Str × Nat)) (hN : c.X.N.Nodup) (tk : L2N.Takes c.X fun cls d _ H => c.W cls d H) (hi : DIx c tg iter fi)
    (hg : ∀ s H C cl fp, DG (blkC c c.W (xeB c.X c.W s H scope cl C fp) s H scope C cl fp) tg ws fg)
    (ht : ∀ s H C cl fp, PTs (blkC c c.W (xeB c.X c.W s H scope cl C fp) s H scope C cl fp).X ifs (tTK c.X.K c.T c.W c.O ft))
    (he : ∀ s H C cl fp, Passes (L2N.CX c.X.prog c.X.w) (blkC c c.W (xeB c.X c.W s H scope cl C fp) s H scope C cl fp).X c.W → DE .z (blkC c c.W (xeB c.X c.W s H scope cl C fp) s H scope C cl fp) elt fe)
    (ok : L2.blkC c.X.N c.X.env.scope scope own = true := by kernel_rfl) (hws : (ws.all fun i => (own.map (·.2)).contains i && !c.O i) = true := by rfl) (hc : c.X.calm = true := by rfl) (hs : ∀ x, foldedSetIterable iter c.X.env x = pure x := by intro _; rfl)
    (hst : c.X.stack = c.X.env :: c.X.outer := by rfl) (hfr : c.X.env.frame = some c.X.env.locals := by rfl) :
    DLc c (.ListComp elt [⟨tg, iter, ifs, 0⟩] scope pos) (eLc fi fg ft fe (own.map (·.2))) := by
  obtain ⟨wi, pi, qi⟩ := hi
  have hws' : ∀ i ∈ ws, i ∈ own.map (·.2) ∧ c.O i = false := fun i hi => by
    have := Bool.and_eq_true_iff.mp (List.all_eq_true.mp hws i hi)
    exact ⟨List.contains_iff_mem.mp this.1, by simpa using this.2⟩
  have bo := blkOk_by ok
  have pg := fun s H C cl fp => (hg s H C cl fp).can
  have pe := fun s H C cl fp => (he s H C cl fp passB).can
  refine ⟨tLc wi (tGK c.X.K c.T ws fg) (tTK c.X.K c.T c.W c.O ft) (tEK .z c.X.K c.T c.W c.O fe) (own.map (·.2)), ⟨fun pins s σ H Q I h => ?_⟩, evs_lcX (iter := iter) (tg := tg) qi hws', fun i y py spos hN hy hl hsw => ⟨fun pins s σ H Dn I h => ?_⟩⟩
  · rw [eval_ListComp]
    refine lc_coreX hst hfr tk hc hN I pi bo pg ht pe hs h fun D C cenv s' m H' hC I' q hn f => ⟨m, by rw [hC]; exact hn, fun h'' sb => ?_⟩
    rw [hC] at sb
    obtain ⟨f0, f1, f2, f3, f4, f5⟩ := f
    exact ⟨.ref D, H', I'.turned (t' := s'.toks) (fun b o hb e => (sb.2 b hb).trans e) f0 f1 f3 f4 f5, rfl, q⟩
  · rw [exec_Assign_Name_used _ _ _ _ hsw]
    refine wpAny_bind (wpAny_standAt (wpAny_bind ?_))
    show wpAny _ c.X.A (do let _ ← comprehension (.ListComp elt [⟨tg, iter, ifs, 0⟩] scope pos) scope c.X.env (firstIterPos [⟨tg, iter, ifs, 0⟩] pos) (newList []) false (eval iter c.X.env) (some (assign (.Name y py) c.X.env))) _ _ s
    refine wpAny_bind (thn (lc_coreX (Qf := fun _ s' => SP c.X pins Dn .next s') (Q := fun x H1 => gName i x σ H1 Dn.nx) hst hfr tk hc hN I pi bo pg ht pe hs h fun L C cenv s' m H' hC I' q hn f => ?_) fun _ s' hq => wpAny_pure (wpAny_pure hq))
    show wpAny _ _ (assign (.Name y py) c.X.env (.ref L)) _ _ _
    refine wpAny_assign_Name (store_ok2 (v := V.ref L) I' hN hy (.inl hl) rfl (fun s2 I2 ⟨a, sb, ha⟩ => ?_) (.inr hl))
    obtain ⟨f0, f1, f2, f3, f4, f5⟩ := f
    have haC : C ≠ a := ha.elim (fun z => by rw [z]; exact f1) fun z e => f4 y a z e.symm
    refine ⟨m, by rw [hC]; exact hn.sameBut sb haC, fun h3 sb3 => ?_⟩
    rw [hC] at sb3
    exact ⟨_, H', I2.turned (t' := s2.toks) (fun b o hb e => (sb3.2 b hb).trans e) f0 f1 f3 f4 f5, q⟩
end
end Mir

set_option Elab.async false
set_option linter.all false
set_option maxRecDepth 100000
set_option maxHeartbeats 4000000
/-! Mir, part F: operations on data. -/
namespace Mir
open PySem PySem.Spec PyProof.Rows L2
section
variable {c : Ctx}
/-! ### whole numbers -/
def intI (g : Int → Int → Option Int) : D → D → Option D
  | .int i, .int j => (g i j).map .int
  | _, _ => none
def intB (g : Int → Int → Bool) : D → D → Option D
  | .int i, .int j => some (.bl (g i j))
  | _, _ => none
theorem opd_I {fn : Value → Value → Sem Value} {C : Int → Int → Prop} {g : Int → Int → Int} {g' : Int → Int → Option Int} (h : OpR c.X fn (rI C fun i j => .int (g i j))) (hg : ∀ i j k, g' i j = some k → C i j ∧ k = g i j) : OpD c fn (intI g') := by
  refine ⟨_, h, fun gh H s x y dx dy d Q w rx ry e k => ?_⟩
  unfold intI at e
  split at e
  · rename_i i j
    cases z : g' i j with
    | none => rw [z] at e; cases e
    | some m =>
      rw [z] at e
      cases e
      obtain ⟨h1, h2⟩ := hg i j m z
      exact ⟨i, j, rx.int, ry.int, h1, by show Q (V.int (g i j)) H; rw [← h2]; exact k.here w (.int m)⟩
  · cases e
theorem opd_I0 {fn : Value → Value → Sem Value} {g : Int → Int → Int} (h : OpR c.X fn (rI0 fun i j => .int (g i j))) : OpD c fn (intI fun i j => some (g i j)) := by
  refine ⟨_, h, fun gh H s x y dx dy d Q w rx ry e k => ?_⟩
  unfold intI at e
  split at e
  · cases e
    exact ⟨_, _, rx.int, ry.int, k.here w (.int _)⟩
  · cases e
theorem opd_B0 {fn : Value → Value → Sem Value} {g : Int → Int → Bool} (h : OpR c.X fn (rI0 fun i j => .bl (g i j))) : OpD c fn (intB g) := by
  refine ⟨_, h, fun gh H s x y dx dy d Q w rx ry e k => ?_⟩
  unfold intB at e
  split at e
  · cases e
    exact ⟨_, _, rx.int, ry.int, k.here w (.bl _)⟩
  · cases e
def mulOk (i j : Int) : Bool := (decide (-(2 ^ 64) < i) && decide (i < 2 ^ 64)) || (decide (-(2 ^ 64) < j) && decide (j < 2 ^ 64)) || decide (i.natAbs.log2 + j.natAbs.log2 < 1000000)
def divOk (j : Int) : Bool := decide (0 < j) && decide (j.natAbs.log2 < 9000)
def powOk (i j : Int) : Bool := decide (0 ≤ j) && decide (j ≤ 1000000) && decide (i.natAbs < 2 ^ 64)
def addI : D → D → Option D := intI fun i j => some (i + j)
def subI : D → D → Option D := intI fun i j => some (i - j)
def mulI : D → D → Option D := intI fun i j => if mulOk i j then some (i * j) else none
def fdivI : D → D → Option D := intI fun i j => if divOk j then some (i / j) else none
def modI : D → D → Option D := intI fun i j => if decide (0 < j) then some (i % j) else none
def powI : D → D → Option D := intI fun i j => if powOk i j then some (i ^ j.toNat) else none
theorem od_sub : OpD c (binaryOp .Sub) subI := opd_I0 op_sub
theorem od_addI : OpD c (binaryOp .Add) addI := opd_I0 op_add
theorem od_mulI : OpD c (binaryOp .Mult) mulI := by
  refine opd_I (C := fun i j => IntMulOk i j) (g := fun i j => i * j) (opI fun _ _ _ _ _ _ _ hc q => mul_int q hc) fun i j k e => ?_
  split at e
  · rename_i h
    cases e
    refine ⟨?_, rfl⟩
    unfold mulOk at h
    simp only [Bool.or_eq_true, Bool.and_eq_true, decide_eq_true_eq] at h
    rcases h with (h | h) | h
    · exact CMul.ok (.inl h)
    · exact CMul.ok (.inr h)
    · exact CMulW.ok h
  · cases e
theorem od_fdiv : OpD c (binaryOp .FloorDiv) fdivI := opd_I op_fdivW fun i j k e => by
  split at e
  · rename_i h
    cases e
    have h := Bool.and_eq_true_iff.mp h
    exact ⟨⟨of_decide_eq_true h.1, of_decide_eq_true h.2⟩, rfl⟩
  · cases e
theorem od_mod : OpD c (binaryOp .Mod) modI := opd_I op_mod fun i j k e => by
  split at e
  · rename_i h
    cases e
    exact ⟨of_decide_eq_true h, rfl⟩
  · cases e
theorem od_pow : OpD c (binaryOp .Pow) powI := opd_I op_pow fun i j k e => by
  split at e
  · rename_i h
    cases e
    unfold powOk at h
    simp only [Bool.and_eq_true, decide_eq_true_eq] at h
    exact ⟨⟨h.1.1, h.1.2, h.2⟩, rfl⟩
  · cases e
def ltI : D → D → Option D := intB fun i j => decide (i < j)
def leI : D → D → Option D := intB fun i j => decide (i ≤ j)
def gtI : D → D → Option D := intB fun i j => decide (j < i)
def geI : D → D → Option D := intB fun i j => decide (j ≤ i)
theorem od_ltI : OpD c (compareOp .Lt) ltI := opd_B0 op_lt
theorem od_leI : OpD c (compareOp .LtE) leI := opd_B0 op_le
theorem od_gt : OpD c (compareOp .Gt) gtI := opd_B0 op_gt
theorem od_ge : OpD c (compareOp .GtE) geI := opd_B0 op_ge
def negI : D → Option D
  | .int i => some (.int (-i))
  | _ => none
theorem ud_neg : UnD c (unaryOp .USub) negI := by
  refine ⟨_, un_neg, fun g H s x dx d Q w rx e k => ?_⟩
  unfold negI at e
  split at e
  · cases e
    exact ⟨_, rx.int, k.here w (.int _)⟩
  · cases e
/-! ### texts -/
def strS (g : Str → Str → Option D) : D → D → Option D
  | .str i, .str j => g i j
  | _, _ => none
def addS : D → D → Option D := strS fun i j => if small (i.length + j.length) then some (.str (i ++ j)) else none
theorem od_addS : OpD c (binaryOp .Add) addS := by
  refine ⟨_, op_add_str, fun g H s x y dx dy d Q w rx ry e k => ?_⟩
  unfold addS strS at e
  split at e
  · rename_i i j
    dsimp only at e
    split at e
    · rename_i hz
      cases e
      exact ⟨i, j, rx.str, ry.str, small_line hz, k.here w (.str _)⟩
    · cases e
  · cases e
def leS : D → D → Option D := strS fun i j => some (.bl (!decide (j.cps.toList < i.cps.toList)))
def ltS : D → D → Option D := strS fun i j => some (.bl (decide (i.cps.toList < j.cps.toList)))
theorem od_leS : OpD c (compareOp .LtE) leS := by
  refine ⟨_, op_le_str, fun g H s x y dx dy d Q w rx ry e k => ?_⟩
  unfold leS strS at e
  split at e
  · cases e
    exact ⟨_, _, rx.str, ry.str, k.here w (.bl _)⟩
  · cases e
theorem od_ltS : OpD c (compareOp .Lt) ltS := by
  refine ⟨_, op_lt_str, fun g H s x y dx dy d Q w rx ry e k => ?_⟩
  unfold ltS strS at e
  split at e
  · cases e
    exact ⟨_, _, rx.str, ry.str, k.here w (.bl _)⟩
  · cases e
def leD : D → D → Option D := orO leI leS
def ltD : D → D → Option D := orO ltI ltS
theorem od_le : OpD c (compareOp .LtE) leD := od_leI.or od_leS
theorem od_lt : OpD c (compareOp .Lt) ltD := od_ltI.or od_ltS
def inStr (j i : Str) : Bool := !(Builtin.Str.occurrences j i 0 j.length 1).isEmpty
def inS : D → D → Option D := strS fun i j => some (.bl (inStr j i))
def notInS : D → D → Option D := strS fun i j => some (.bl (!inStr j i))
theorem od_inS : OpD c (compareOp .In) inS := by
  refine ⟨_, op_in_str, fun g H s x y dx dy d Q w rx ry e k => ?_⟩
  unfold inS strS at e
  split at e
  · cases e
    exact ⟨_, _, rx.str, ry.str, k.here w (.bl _)⟩
  · cases e
theorem od_notInS : OpD c (compareOp .NotIn) notInS := by
  refine ⟨_, op_notin_str, fun g H s x y dx dy d Q w rx ry e k => ?_⟩
  unfold notInS strS at e
  split at e
  · cases e
    exact ⟨_, _, rx.str, ry.str, k.here w (.bl _)⟩
  · cases e
def isNonD : D → D → Option D
  | .non, .non => some (.bl true)
  | .bl _, .non => some (.bl false)
  | .int _, .non => some (.bl false)
  | .str _, .non => some (.bl false)
  | .tup _, .non => some (.bl false)
  | .lst _, .non => some (.bl false)
  | .dct _, .non => some (.bl false)
  | .obj _, .non => some (.bl false)
  | _, _ => none
def isNotNonD (x y : D) : Option D := match isNonD x y with
  | some (.bl b) => some (.bl (!b))
  | _ => none
theorem nonD_dec {g : Gh} {H : Hp} {x y : V} {dx dy : D} {b : Bool} (rx : RK .b c.X.K g H H x dx) (ry : RK .b c.X.K g H H y dy) (e : isNonD dx dy = some (.bl b)) : y = .non ∧ decide (x = V.non) = b := by
  unfold isNonD at e
  split at e <;> cases e
  · exact ⟨ry.non, decide_eq_true rx.non⟩
  · exact ⟨ry.non, decide_eq_false (by rw [rx.bl]; exact fun z => nomatch z)⟩
  · exact ⟨ry.non, decide_eq_false (by rw [rx.int]; exact fun z => nomatch z)⟩
  · exact ⟨ry.non, decide_eq_false (by rw [rx.str]; exact fun z => nomatch z)⟩
  · refine ⟨ry.non, decide_eq_false fun z => ?_⟩
    rcases rx with rx | rx
    · cases rx; cases z
    · cases rx
  · refine ⟨ry.non, decide_eq_false fun z => ?_⟩
    rcases rx with rx | rx <;> (cases rx; cases z)
  · refine ⟨ry.non, decide_eq_false fun z => ?_⟩
    rcases rx with rx | rx <;> (cases rx; cases z)
  · refine ⟨ry.non, decide_eq_false fun z => ?_⟩
    rcases rx with rx | rx
    · cases rx; cases z
    · cases rx
theorem od_isN : OpD c (compareOp .Is) isNonD := by
  refine ⟨_, op_isN, fun g H s x y dx dy d Q w rx ry e k => ?_⟩
  have hb : ∃ b, d = .bl b := by
    unfold isNonD at e
    split at e <;> cases e <;> exact ⟨_, rfl⟩
  obtain ⟨b, rfl⟩ := hb
  obtain ⟨h1, h2⟩ := nonD_dec rx ry e
  exact ⟨h1, by rw [h2]; exact k.here w (.bl _)⟩
theorem od_isNotN : OpD c (compareOp .IsNot) isNotNonD := by
  refine ⟨_, op_notN, fun g H s x y dx dy d Q w rx ry e k => ?_⟩
  unfold isNotNonD at e
  split at e
  · rename_i b z
    cases e
    obtain ⟨h1, h2⟩ := nonD_dec rx ry z
    exact ⟨h1, by rw [h2]; exact k.here w (.bl _)⟩
  · cases e
/-! ### lists, tuples -/
def addL : D → D → Option D
  | .lst xs, .lst ys => if small (xs.length + ys.length) then some (.lst (xs ++ ys)) else none
  | _, _ => none
theorem od_addL : OpD c (binaryOp .Add) addL := by
  refine ⟨_, op_cat, fun g H s x y dx dy d Q w rx ry e k => ?_⟩
  unfold addL at e
  split at e
  · split at e
    · rename_i hz
      cases e
      obtain ⟨a, xs, rfl, h1, r1⟩ := rx.lst w
      obtain ⟨b, ys, rfl, h2, r2⟩ := ry.lst w
      exact ⟨a, b, xs, ys, rfl, rfl, h1, h2, small_line (by rw [r1.length, r2.length]; exact hz), fun p hp => k.lst w (r1.append r2) hp⟩
    · cases e
  · cases e
def addD : D → D → Option D := orO addI (orO addS addL)
theorem od_add : OpD c (binaryOp .Add) addD := od_addI.or (od_addS.or od_addL)
theorem Reps.rep {K : PySem.W.Frag} {g : Gh} {xs : List V} {ds : List D} (r : Reps K g xs ds) : ∀ k : Nat, Reps K g (List.replicate k xs).flatten (List.replicate k ds).flatten
  | 0 => .nil
  | k + 1 => r.append (Reps.rep r k)
def mulL : D → D → Option D
  | .lst xs, .int k => if decide (-(2 ^ 63) ≤ k) && decide (k < 2 ^ 63) && small (xs.length * k.toNat) then some (.lst (List.replicate k.toNat xs).flatten) else none
  | _, _ => none
theorem od_mulL : OpD c (binaryOp .Mult) mulL := by
  refine ⟨_, op_rep, fun g H s x y dx dy d Q w rx ry e k => ?_⟩
  unfold mulL at e
  split at e
  · split at e
    · rename_i hz
      cases e
      simp only [Bool.and_eq_true, decide_eq_true_eq] at hz
      obtain ⟨a, xs, rfl, h1, r1⟩ := rx.lst w
      exact ⟨a, _, xs, rfl, ry.int, h1, hz.1.1, hz.1.2, small_line (by rw [r1.length]; exact hz.2), fun p hp => k.lst w (r1.rep _) hp⟩
    · cases e
  · cases e
end
end Mir

set_option Elab.async false
set_option linter.all false
set_option maxRecDepth 100000
set_option maxHeartbeats 4000000
/-! Mir, part G: ==, in, subscripts, slices, what is built in. -/
namespace Mir
open PySem PySem.Spec PyProof.Rows L2
/-! ### == -/
mutual
def toP : D → Option PyData
  | .non => some .none
  | .bl b => some (.bool b)
  | .int i => some (.int i)
  | .str x => some (.str x)
  | .tup xs => (toPs xs).map .tuple
  | .lst xs => (toPs xs).map .list
  | .scr ns => some (.list (ns.map .int))
  | .dct _ => none
  | .obj _ => none
  | .exc _ => none
def toPs : List D → Option (List PyData)
  | [] => some []
  | d :: ds => match toP d, toPs ds with
    | some p, some ps => some (p :: ps)
    | _, _ => none
end
theorem dpAll_ints (K : PySem.W.Frag) (H : Hp) : ∀ ns : List Int, DpAll K H (ns.map V.int) (ns.map PyData.int)
  | [] => .nil
  | n :: ns => .cons (.int n) (dpAll_ints K H ns)
section
variable {K : PySem.W.Frag} {T : List (Addr × Str)} {g : Gh} {H : Hp} {s : Sto}
mutual
theorem Rep.dp (w : WF K T g H s) : ∀ {v : V} {d : D} {p : PyData}, Rep K g v d → toP d = some p → Dp K H v p
  | _, _, _, .non, e => by cases e; exact .non
  | _, _, _, .bl b, e => by cases e; exact .bl b
  | _, _, _, .int b, e => by cases e; exact .int b
  | _, _, _, .str b, e => by cases e; exact .str b
  | _, .tup ds, p, .tup h r, e => by
    have e : (toPs ds).map .tuple = some p := e
    cases z : toPs ds with
    | none => rw [z] at e; cases e
    | some ps => rw [z] at e; cases e; exact .tup (sqT_mono w.sub h) (Reps.dp w r z)
  | _, .lst ds, p, .lst h r, e => by
    have e : (toPs ds).map .list = some p := e
    cases z : toPs ds with
    | none => rw [z] at e; cases e
    | some ps => rw [z] at e; cases e; exact .lst (SqL.of (w.sub _ _ h)) (Reps.dp w r z)
  | _, .dct _, p, .dct h l r, e => by cases e
  | _, .scr ns, p, .scr h, e => by cases e; exact .lst (sqL_mono w.sub h) (dpAll_ints K H ns)
  | _, .obj _, p, .obj h, e => by cases e
  | _, .exc _, p, .exc, e => by cases e
theorem Reps.dp (w : WF K T g H s) : ∀ {vs : List V} {ds : List D} {ps : List PyData}, Reps K g vs ds → toPs ds = some ps → DpAll K H vs ps
  | _, _, _, .nil, e => by cases e; exact .nil
  | _, d :: ds, ps, .cons h r, e => by
    have e : (match toP d, toPs ds with
      | some p, some ps => some (p :: ps)
      | _, _ => none) = some ps := e
    cases z1 : toP d with
    | none => rw [z1] at e; cases e
    | some p =>
      cases z2 : toPs ds with
      | none => rw [z1, z2] at e; cases e
      | some ps' =>
        rw [z1, z2] at e
        cases e
        exact .cons (Rep.dp w h z1) (Reps.dp w r z2)
end
theorem RK.dp (w : WF K T g H s) {H0 : Hp} {v : V} {d : D} {p : PyData} (h : RK .b K g H0 H v d) (e : toP d = some p) : Dp K H v p := by
  rcases h with h | h
  · exact h.dp w e
  · cases h with
    | @lst a xs ds a1 a2 a3 a4 =>
      have e : (toPs ds).map .list = some p := e
      cases z : toPs ds with
      | none => rw [z] at e; cases e
      | some ps => rw [z] at e; cases e; exact .lst (SqL.of a3) (a4.dp w z)
    | dct => cases e
end
def scalD : D → Option V
  | .non => some .non
  | .bl b => some (.bl b)
  | .int i => some (.int i)
  | .str x => some (.str x)
  | _ => none
def eqS (f : Bool → Bool) : D → D → Option D := fun x y => match scalD x, scalD y with
  | some u, some v => if scal u v then some (.bl (f (decide (u = v)))) else none
  | _, _ => none
def eqP (f : Bool → Bool) : D → D → Option D := fun x y => match toP x, toP y with
  | some u, some v => if SeqAt.shaped u && SeqAt.shaped v then some (.bl (f (PyData.eqv u v))) else none
  | _, _ => none
section
variable {c : Ctx}
theorem RK.scal {k : Kd} {K : PySem.W.Frag} {g : Gh} {H0 H : Hp} {v u : V} {d : D} (h : RK k K g H0 H v d) (e : scalD d = some u) : v = u := by
  cases d with
  | non => cases e; exact h.non
  | bl b => cases e; exact h.bl
  | int b => cases e; exact h.int
  | str b => cases e; exact h.str
  | _ => cases e
theorem od_eqS : OpD c (compareOp .Eq) (eqS id) := by
  refine ⟨_, op_eq, fun g H s x y dx dy d Q w rx ry e k => ?_⟩
  unfold eqS at e
  split at e
  · rename_i u v h1 h2
    split at e
    · rename_i hz
      cases e
      rw [rx.scal h1, ry.scal h2]
      exact ⟨hz, k.here w (.bl _)⟩
    · cases e
  · cases e
theorem od_neS : OpD c (compareOp .NotEq) (eqS not) := by
  refine ⟨_, op_ne, fun g H s x y dx dy d Q w rx ry e k => ?_⟩
  unfold eqS at e
  split at e
  · rename_i u v h1 h2
    split at e
    · rename_i hz
      cases e
      rw [rx.scal h1, ry.scal h2]
      exact ⟨hz, k.here w (.bl _)⟩
    · cases e
  · cases e
theorem od_eqP (hu : c.X.A.units + 64 < cLine) : OpD c (compareOp .Eq) (eqP id) := by
  refine ⟨_, op_eqD hu, fun g H s x y dx dy d Q w rx ry e k => ?_⟩
  unfold eqP at e
  split at e
  · rename_i u v h1 h2
    split at e
    · rename_i hz
      cases e
      have hz := Bool.and_eq_true_iff.mp hz
      exact ⟨u, v, rx.dp w h1, ry.dp w h2, hz.1, hz.2, k.here w (.bl _)⟩
    · cases e
  · cases e
theorem od_neP (hu : c.X.A.units + 64 < cLine) : OpD c (compareOp .NotEq) (eqP not) := by
  refine ⟨_, op_neD hu, fun g H s x y dx dy d Q w rx ry e k => ?_⟩
  unfold eqP at e
  split at e
  · rename_i u v h1 h2
    split at e
    · rename_i hz
      cases e
      have hz := Bool.and_eq_true_iff.mp hz
      exact ⟨u, v, rx.dp w h1, ry.dp w h2, hz.1, hz.2, k.here w (.bl _)⟩
    · cases e
  · cases e
def eqD : D → D → Option D := orO (eqS id) (eqP id)
def neD : D → D → Option D := orO (eqS not) (eqP not)
theorem od_eq (hu : c.X.A.units + 64 < cLine) : OpD c (compareOp .Eq) eqD := od_eqS.or (od_eqP hu)
theorem od_ne (hu : c.X.A.units + 64 < cLine) : OpD c (compareOp .NotEq) neD := od_neS.or (od_neP hu)
/-! ### in, flat things within a list or a tuple -/
def scalDs : List D → Option (List V)
  | [] => some []
  | d :: ds => match scalD d, scalDs ds with
    | some v, some vs => some (v :: vs)
    | _, _ => none
theorem Reps.scals {K : PySem.W.Frag} {g : Gh} : ∀ {vs us : List V} {ds : List D}, Reps K g vs ds → scalDs ds = some us → vs = us
  | _, _, _, .nil, e => by cases e; rfl
  | v :: vs, us, d :: ds, .cons h r, e => by
    have e : (match scalD d, scalDs ds with
      | some v, some vs => some (v :: vs)
      | _, _ => none) = some us := e
    cases z1 : scalD d with
    | none => rw [z1] at e; cases e
    | some p =>
      cases z2 : scalDs ds with
      | none => rw [z1, z2] at e; cases e
      | some ps' =>
        rw [z1, z2] at e
        cases e
        rw [RK.scal (k := .z) (H0 := fun _ => none) (H := fun _ => none) h z1, Reps.scals r z2]
theorem scal_flat : ∀ {d : D} {v : V}, scalD d = some v → flatV v = true
  | .non, _, e => by cases e; rfl
  | .bl _, _, e => by cases e; rfl
  | .int _, _, e => by cases e; rfl
  | .str _, _, e => by cases e; rfl
theorem scals_flat : ∀ {ds : List D} {vs : List V}, scalDs ds = some vs → vs.all flatV = true
  | [], _, e => by cases e; rfl
  | d :: ds, us, e => by
    have e : (match scalD d, scalDs ds with
      | some v, some vs => some (v :: vs)
      | _, _ => none) = some us := e
    cases z1 : scalD d with
    | none => rw [z1] at e; cases e
    | some p =>
      cases z2 : scalDs ds with
      | none => rw [z1, z2] at e; cases e
      | some ps' =>
        rw [z1, z2] at e
        cases e
        rw [List.all_cons, scal_flat z1, scals_flat z2]
        rfl
def inF (f : Bool → Bool) : D → D → Option D := fun x y => match scalD x, y with
  | some u, .lst ds => (scalDs ds).map fun vs => .bl (f (inV u vs))
  | some u, .tup ds => (scalDs ds).map fun vs => .bl (f (inV u vs))
  | _, _ => none
theorem inF_ok {neg : Bool} {fn : Value → Value → Sem Value} (h : OpR c.X fn (rIn c.X.K neg)) : OpD c fn (inF fun b => if neg then !b else b) := by
  refine ⟨_, h, fun g H s x y dx dy d Q w rx ry e k => ?_⟩
  unfold inF at e
  split at e
  · rename_i u ds h1
    cases z : scalDs ds with
    | none => rw [z] at e; cases e
    | some vs =>
      rw [z] at e
      cases e
      obtain ⟨a, xs, rfl, h2, r2⟩ := ry.lst w
      have ev := r2.scals z
      subst ev
      rw [rx.scal h1]
      exact ⟨a, _, rfl, .inl (SqL.of h2), scal_flat h1, scals_flat z, k.here w (.bl _)⟩
  · rename_i u ds h1
    cases z : scalDs ds with
    | none => rw [z] at e; cases e
    | some vs =>
      rw [z] at e
      cases e
      obtain ⟨a, xs, rfl, h2, r2⟩ := ry.tup w
      have ev := r2.scals z
      subst ev
      rw [rx.scal h1]
      exact ⟨a, _, rfl, .inr h2, scal_flat h1, scals_flat z, k.here w (.bl _)⟩
  · cases e
def inD : D → D → Option D := orO inS (inF fun b => if false then !b else b)
def notInD : D → D → Option D := orO notInS (inF fun b => if true then !b else b)
theorem od_in : OpD c (compareOp .In) inD := od_inS.or (inF_ok op_in_seq)
theorem od_notIn : OpD c (compareOp .NotIn) notInD := od_notInS.or (inF_ok op_notIn_seq)
/-! ### * and + of more kinds -/
def mulOkS (x : Str) (n : Int) : Bool := decide (2 ≤ n) && decide (n ≤ 100000) && decide (1 ≤ x.length) && decide (x.length ≤ 100)
def mulS : D → D → Option D
  | .str x, .int n => if mulOkS x n then some (.str (Txt.mul x n)) else none
  | _, _ => none
theorem mulOkS_ok {x : Str} {n : Int} (h : mulOkS x n = true) : MulOk x n := by
  unfold mulOkS at h
  simp only [Bool.and_eq_true, decide_eq_true_eq] at h
  obtain ⟨⟨⟨h1, h2⟩, h3⟩, h4⟩ := h
  refine ⟨?_, fun _ _ => ?_, fun _ _ => ?_⟩
  · rw [decide_eq_false (by omega), decide_eq_false (by omega)]
    rfl
  · have : (100 : Int) ≤ (2 ^ 63 - 1) / n := Int.le_ediv_of_mul_le (by omega) (by omega)
    omega
  · have hm : x.length * n.toNat ≤ 100 * 100000 := Nat.mul_le_mul h4 (by omega)
    have : ¬ (x.length * n.toNat > sizeLine) := by rw [sizeLine_eq]; omega
    unfold Builtin.Str.tooLong
    simpa using this
theorem od_mulS : OpD c (binaryOp .Mult) mulS := by
  refine ⟨fun x y H Q => ∃ z n, x = .str z ∧ y = .int n ∧ MulOk z n ∧ Q (.str (Txt.mul z n)) H, ?_, fun g H s x y dx dy d Q w rx ry e k => ?_⟩
  · intro pins s σ H x y v u Q I rx ry h
    obtain ⟨z, n, rfl, rfl, ok, q⟩ := h
    obtain ⟨t, rfl⟩ := rx
    obtain ⟨t', rfl⟩ := ry
    exact SB.mul ok fun t2 k2 => ⟨.str _, H, I.tok _, ⟨_, rfl⟩, q⟩
  · unfold mulS at e
    split at e
    · split at e
      · rename_i hz
        cases e
        exact ⟨_, _, rx.str, ry.int, mulOkS_ok hz, k.here w (.str _)⟩
      · cases e
    · cases e
def mulT : D → D → Option D
  | .tup xs, .int k => if decide (2 ≤ k) && decide (k ≤ 1000) && decide (1 ≤ xs.length) && decide (xs.length ≤ 1000) then some (.tup (List.replicate k.toNat xs).flatten) else none
  | _, _ => none
theorem od_mulT : OpD c (binaryOp .Mult) mulT := by
  refine ⟨_, op_repT, fun g H s x y dx dy d Q w rx ry e k => ?_⟩
  unfold mulT at e
  split at e
  · split at e
    · rename_i hz
      cases e
      simp only [Bool.and_eq_true, decide_eq_true_eq] at hz
      obtain ⟨a, xs, rfl, h1, r1⟩ := rx.tup w
      have hl := r1.length
      exact ⟨a, _, xs, rfl, ry.int, h1, fun z => by rw [z] at hl; simp at hl; omega, hz.1.1.1, hz.1.1.2, by omega, fun p hp => k.tup w (r1.rep _) hp⟩
    · cases e
  · cases e
def mulD : D → D → Option D := orO mulI (orO mulS (orO mulL mulT))
theorem od_mul : OpD c (binaryOp .Mult) mulD := od_mulI.or (od_mulS.or (od_mulL.or od_mulT))
def addT : D → D → Option D
  | .tup xs, .tup ys => if small (xs.length + ys.length) then some (.tup (xs ++ ys)) else none
  | _, _ => none
theorem od_addT : OpD c (binaryOp .Add) addT := by
  refine ⟨_, op_catA, fun g H s x y dx dy d Q w rx ry e k => ?_⟩
  unfold addT at e
  split at e
  · rename_i xs ys
    split at e
    · rename_i hz
      cases e
      have rx' := rx.rep
      have ry' := ry.rep
      obtain ⟨a, us, rfl, h1, r1⟩ := rx.tup w
      obtain ⟨b, vs, rfl, h2, r2⟩ := ry.tup w
      have l1 := r1.length
      have l2 := r2.length
      refine ⟨a, b, us, vs, rfl, rfl, h1, h2, small_line (by rw [l1, l2]; exact hz), fun z => ?_, fun z z' => ?_, fun z z' p hp => k.tup w (r1.append r2) hp⟩
      · have : xs = [] := by rw [z] at l1; exact List.eq_nil_of_length_eq_zero l1.symm
        rw [this, List.nil_append] at k
        exact k.here w ry'
      · have : ys = [] := by rw [z'] at l2; exact List.eq_nil_of_length_eq_zero l2.symm
        rw [this, List.append_nil] at k
        exact k.here w rx'
    · cases e
  · cases e
def addDT : D → D → Option D := orO addD addT
theorem od_addA : OpD c (binaryOp .Add) addDT := od_add.or od_addT
/-! ### subscripts -/
def ixD : D → D → Option D
  | .lst xs, .int i => atI xs i
  | .tup xs, .int i => atI xs i
  | .str x, .int i => if small x.length then (atI x.cps.toList i).map fun k => .str ⟨#[k]⟩ else none
  | .scr ns, .int i => (atI ns i).map .int
  | _, _ => none
theorem Reps.atI {K : PySem.W.Frag} {g : Gh} {xs : List V} {ds : List D} {i : Int} {d : D} (r : Reps K g xs ds) (e : L2.atI ds i = some d) : ∃ v, L2.atI xs i = some v ∧ Rep K g v d := by
  unfold L2.atI at e ⊢
  rw [r.length]
  cases z : ixN ds.length i with
  | none => rw [z] at e; cases e
  | some j =>
    rw [z] at e
    obtain ⟨v, h1, h2⟩ := r.get e
    exact ⟨v, h1, h2⟩
theorem atI_map {ns : List Int} {i n : Int} (e : L2.atI ns i = some n) : L2.atI (ns.map V.int) i = some (.int n) := by
  unfold L2.atI at e ⊢
  rw [List.length_map]
  cases z : ixN ns.length i with
  | none => rw [z] at e; cases e
  | some j =>
    rw [z] at e
    show (ns.map V.int)[j]? = _
    have e : ns[j]? = some n := e
    rw [List.getElem?_map, e]
    rfl
theorem de_ix {a b : Expr} {fa fb : ED} {pos : Pos} (ha : DE .b c a fa) (hb : DE .b c b fb) (hs : PlainIx b := by intro _ _; rfl) : DE .z c (.Subscript a b pos) (e2 ixD fa fb) := by
  obtain ⟨ta, pa, qa⟩ := ha
  obtain ⟨tb, pb, qb⟩ := hb
  refine de_mk (pe_ix ix_seq pa pb hs) fun g H s σ τ Q o h => qa g H s σ τ _ o (Pg.seq h fun x s1 g1 H1 er e1 w1 h1 v rx0 => qb g1 H1 s1 σ τ _ (o.ext e1 w1) (Pg.seq h1 fun y s2 g2 H2 er' e2 w2 h2 u ry => ?_))
  clear er er'
  obtain ⟨d, ed, k⟩ := h2.opt
  have rx := rx0.extB (H1 := H1) e2
  clear rx0
  have kk : ∀ v, Rep c.X.K g2 v d → Q v H2 := fun v r => k g2 H2 (Ext.refl _ _) w2 v r
  unfold ixD at ed
  split at ed
  · obtain ⟨a, xs, rfl, q1, r1⟩ := rx.lst w2
    obtain ⟨v, q2, r2⟩ := r1.atI ed
    exact .inl ⟨a, xs, _, v, rfl, ry.int, SqL.of q1, q2, kk v r2⟩
  · obtain ⟨a, xs, rfl, q1, r1⟩ := rx.tup w2
    obtain ⟨v, q2, r2⟩ := r1.atI ed
    exact .inr (.inl ⟨a, xs, _, v, rfl, ry.int, q1, q2, kk v r2⟩)
  · rename_i x i
    split at ed
    · rename_i hz
      cases z : L2.atI x.cps.toList i with
      | none => rw [z] at ed; cases ed
      | some m =>
        rw [z] at ed
        cases ed
        exact .inr (.inr ⟨x, i, m, rx.str, ry.int, small_line hz, z, kk _ (.str _)⟩)
    · cases ed
  · rename_i ns i
    cases z : L2.atI ns i with
    | none => rw [z] at ed; cases ed
    | some m =>
      rw [z] at ed
      cases ed
      obtain ⟨a, rfl, q1⟩ := rx.scr w2
      exact .inl ⟨a, _, i, _, rfl, ry.int, q1, atI_map z, kk _ (.int m)⟩
  · cases ed
/-! ### slices -/
abbrev OD := Ev → M (Option Int)
def oNone : OD := fun _ => M.ret none
def toI : D → M (Option Int)
  | .int i => M.ret (some i)
  | _ => fun _ => .no
def oSome (f : ED) : OD := fun τ s => (f τ s).bind toI
def DO (c : Ctx) (e : Option Expr) (f : OD) : Prop := ∃ t : TO, PO c.X e t ∧ ∀ g H s σ τ Q, Ok c g H s σ τ → Pg c g H (fun b _ _ H' => Q b H') (f τ s) → t σ H Q
theorem do_none : DO c none oNone := ⟨tNoPart, po_none, fun g H s σ τ Q o h => Pg.now h o.wf⟩
theorem do_some {e : Expr} {f : ED} (h : DE .b c e f) : DO c (some e) (oSome f) := by
  obtain ⟨t, p, q⟩ := h
  refine ⟨tPart t, po_some p, fun g H s σ τ Q o h => q g H s σ τ _ o (Pg.seq h fun x s1 g1 H1 _ e1 w1 h1 v rx => ?_)⟩
  cases x with
  | int i => exact ⟨i, rx.int, Pg.now h1 w1⟩
  | _ => exact h1.elim
def cutD (xs : List D) (lo hi : Option Int) : List D := (xs.drop (HT.sIx xs.length 0 lo)).take (HT.sIx xs.length xs.length hi - HT.sIx xs.length 0 lo)
theorem Reps.cut {K : PySem.W.Frag} {g : Gh} {xs : List V} {ds : List D} (r : Reps K g xs ds) (lo hi : Option Int) : Reps K g (cutV xs lo hi) (cutD ds lo hi) := by
  unfold cutV cutD
  rw [r.length]
  exact (r.drop _).take _
def slD (x : D) (lo hi : Option Int) : Option D := match x with
  | .lst xs => some (.lst (cutD xs lo hi))
  | .str z => if small z.length then some (.str (cutS z lo hi)) else none
  | .tup xs => some (.tup (cutD xs lo hi))
  | _ => none
def eSl (a : ED) (lo hi : OD) : ED := fun τ s => (a τ s).bind fun x s => (lo τ s).bind fun l s => (hi τ s).bind fun u => M.opt (slD x l u)
theorem de_slice {e : Expr} {lo hi : Option Expr} {f : ED} {fl fh : OD} {pos p2 : Pos} (he : DE .b c e f) (hl : DO c lo fl) (hh : DO c hi fh) : DE .o c (.Subscript e (.Slice lo hi none p2) pos) (eSl f fl fh) := by
  obtain ⟨t, p, q⟩ := he
  obtain ⟨tl, pl, ql⟩ := hl
  obtain ⟨th, ph, qh⟩ := hh
  refine de_mk (pe_slice (sl_list.or (sl_str.or sl_tupA)) p pl ph) fun g H s σ τ Q o h => q g H s σ τ _ o (Pg.seq h fun x s1 g1 H1 er e1 w1 h1 v rx0 => ql g1 H1 s1 σ τ _ (o.ext e1 w1) (Pg.seq h1 fun l s2 g2 H2 _ e2 w2 h2 => qh g2 H2 s2 σ τ _ ((o.ext e1 w1).ext e2 w2) (Pg.seq h2 fun u s3 g3 H3 _ e3 w3 h3 => ?_)))
  clear er
  obtain ⟨d, ed, k⟩ := h3.opt
  have rx := rx0.extB (H1 := H1) (e2.trans e3)
  clear rx0
  have kk : Wt c g3 H3 s3 d Q := fun v' g' H' e' w' r' => k g' H' e' w' v' (r'.ext (Ext.refl _ _) fun p q => ((e1.trans e2).trans e3).fresh q)
  unfold slD at ed
  split at ed
  · cases ed
    obtain ⟨a, xs, rfl, q1, r1⟩ := rx.lst w3
    exact .inl ⟨a, xs, rfl, SqL.of q1, fun p hp => kk.lst w3 (r1.cut l u) hp⟩
  · split at ed
    · rename_i hz
      cases ed
      exact .inr (.inl ⟨_, rx.str, small_line hz, kk.here w3 (.str _)⟩)
    · cases ed
  · rename_i ds
    cases ed
    have rr := rx.rep
    obtain ⟨a, xs, rfl, q1, r1⟩ := rx.tup w3
    refine .inr (.inr ⟨a, xs, rfl, q1, fun z => ?_, fun z p hp => kk.tup w3 (r1.cut l u) hp⟩)
    have : cutD ds l u = ds := by
      unfold cutD
      rw [r1.length] at z
      rw [z.1, z.2, List.drop_zero, Nat.sub_zero, List.take_length]
    rw [this] at kk
    exact kk.here w3 rr
  · cases ed
end
end Mir

set_option Elab.async false
set_option linter.all false
set_option maxRecDepth 100000
set_option maxHeartbeats 4000000
/-! Mir, part H: what is built in, further walks. -/
namespace Mir
open PySem PySem.Spec PyProof.Rows L2
section
variable {c : Ctx}
theorem RKs.one {k : Kd} {K : PySem.W.Frag} {g : Gh} {H0 H : Hp} {vs : List V} {d : D} (h : RKs k K g H0 H vs [d]) : ∃ v, vs = [v] ∧ RK k K g H0 H v d := by
  cases h with
  | cons h r => cases r; exact ⟨_, rfl, h⟩
theorem RKs.two {k : Kd} {K : PySem.W.Frag} {g : Gh} {H0 H : Hp} {vs : List V} {d e : D} (h : RKs k K g H0 H vs [d, e]) : ∃ v u, vs = [v, u] ∧ RK k K g H0 H v d ∧ RK k K g H0 H u e := by
  cases h with
  | cons h r =>
    cases r with
    | cons h' r => cases r; exact ⟨_, _, rfl, h, h'⟩
/-! ### calls -/
def lenD : List D → Option D
  | [.str x] => if small x.length then some (.int x.length) else none
  | [.lst xs] => some (.int xs.length)
  | [.tup xs] => some (.int xs.length)
  | [.scr xs] => some (.int xs.length)
  | _ => none
theorem cd_len : CallD c (.builtin "len") lenD := by
  refine ⟨_, call_len, fun g H s xs ds d Q w rs e k => ?_⟩
  unfold lenD at e
  split at e
  · split at e
    · rename_i x hz
      cases e
      obtain ⟨v, rfl, r⟩ := rs.one
      exact ⟨v, x.length, rfl, by rw [r.str]; exact ⟨small_line hz, rfl⟩, k.here w (.int _)⟩
    · cases e
  · rename_i ys
    cases e
    obtain ⟨v, rfl, r⟩ := rs.one
    obtain ⟨a, us, rfl, h1, r1⟩ := r.lst w
    exact ⟨_, ys.length, rfl, .inl ⟨us, SqL.of h1, r1.length.symm⟩, k.here w (.int _)⟩
  · rename_i ys
    cases e
    obtain ⟨v, rfl, r⟩ := rs.one
    obtain ⟨a, us, rfl, h1, r1⟩ := r.tup w
    exact ⟨_, ys.length, rfl, .inr ⟨us, h1, r1.length.symm⟩, k.here w (.int _)⟩
  · rename_i ns
    cases e
    obtain ⟨v, rfl, r⟩ := rs.one
    obtain ⟨a, rfl, h1⟩ := r.scr w
    exact ⟨_, ns.length, rfl, .inl ⟨_, h1, by rw [List.length_map]⟩, k.here w (.int _)⟩
  · cases e
def bls : List D → Option (List Bool)
  | [] => some []
  | .bl b :: ds => (bls ds).map (b :: ·)
  | _ => none
theorem Reps.bls {K : PySem.W.Frag} {g : Gh} : ∀ {vs : List V} {ds : List D} {bs : List Bool}, Reps K g vs ds → Mir.bls ds = some bs → vs = bs.map V.bl
  | _, _, _, .nil, e => by cases e; rfl
  | _, .bl b :: ds, bs, .cons h r, e => by
    have e : (Mir.bls ds).map (b :: ·) = some bs := e
    cases z : Mir.bls ds with
    | none => rw [z] at e; cases e
    | some bs' =>
      rw [z] at e
      cases e
      cases h
      rw [Reps.bls r z]
      rfl
def intsOf : List D → Option (List Int)
  | [] => some []
  | .int b :: ds => (intsOf ds).map (b :: ·)
  | _ => none
theorem Reps.intsOf {K : PySem.W.Frag} {g : Gh} : ∀ {vs : List V} {ds : List D} {bs : List Int}, Reps K g vs ds → Mir.intsOf ds = some bs → vs = bs.map V.int
  | _, _, _, .nil, e => by cases e; rfl
  | _, .int b :: ds, bs, .cons h r, e => by
    have e : (Mir.intsOf ds).map (b :: ·) = some bs := e
    cases z : Mir.intsOf ds with
    | none => rw [z] at e; cases e
    | some bs' =>
      rw [z] at e
      cases e
      cases h
      rw [Reps.intsOf r z]
      rfl
def strs' : List D → Option (List Str)
  | [] => some []
  | .str b :: ds => (strs' ds).map (b :: ·)
  | _ => none
theorem Reps.strs' {K : PySem.W.Frag} {g : Gh} : ∀ {vs : List V} {ds : List D} {bs : List Str}, Reps K g vs ds → Mir.strs' ds = some bs → vs = bs.map V.str
  | _, _, _, .nil, e => by cases e; rfl
  | _, .str b :: ds, bs, .cons h r, e => by
    have e : (Mir.strs' ds).map (b :: ·) = some bs := e
    cases z : Mir.strs' ds with
    | none => rw [z] at e; cases e
    | some bs' =>
      rw [z] at e
      cases e
      cases h
      rw [Reps.strs' r z]
      rfl
theorem reps_strs {K : PySem.W.Frag} {g : Gh} : ∀ ys : List Str, Reps K g (ys.map V.str) (ys.map D.str)
  | [] => .nil
  | y :: ys => .cons (.str y) (reps_strs ys)
theorem reps_ints {K : PySem.W.Frag} {g : Gh} : ∀ ys : List Int, Reps K g (ys.map V.int) (ys.map D.int)
  | [] => .nil
  | y :: ys => .cons (.int y) (reps_ints ys)
def allD : List D → Option D
  | [.lst ds] => (bls ds).map fun bs => .bl (bs.all id)
  | _ => none
def anyD : List D → Option D
  | [.lst ds] => (bls ds).map fun bs => .bl (bs.any id)
  | _ => none
theorem cd_all (hc : c.X.calm = true := by rfl) : CallD c (.builtin "all") allD := by
  refine ⟨_, cr_all hc, fun g H s xs ds d Q w rs e k => ?_⟩
  unfold allD at e
  split at e
  · rename_i ys
    cases z : bls ys with
    | none => rw [z] at e; cases e
    | some bs =>
      rw [z] at e
      cases e
      obtain ⟨v, rfl, r⟩ := rs.one
      obtain ⟨a, us, rfl, h1, r1⟩ := r.lst w
      rw [r1.bls z] at h1
      exact ⟨a, bs, rfl, SqL.of h1, k.here w (.bl _)⟩
  · cases e
theorem cd_any (hc : c.X.calm = true := by rfl) : CallD c (.builtin "any") anyD := by
  refine ⟨_, cr_any hc, fun g H s xs ds d Q w rs e k => ?_⟩
  unfold anyD at e
  split at e
  · rename_i ys
    cases z : bls ys with
    | none => rw [z] at e; cases e
    | some bs =>
      rw [z] at e
      cases e
      obtain ⟨v, rfl, r⟩ := rs.one
      obtain ⟨a, us, rfl, h1, r1⟩ := r.lst w
      rw [r1.bls z] at h1
      exact ⟨a, bs, rfl, SqL.of h1, k.here w (.bl _)⟩
  · cases e
def strOfD : List D → Option D
  | [.int i] => if decide (i.natAbs.log2 < 1920) then some (.str (toString i)) else none
  | _ => none
theorem cd_str : CallD c (.type "str") strOfD := by
  refine ⟨_, call_str_int, fun g H s xs ds d Q w rs e k => ?_⟩
  unfold strOfD at e
  split at e
  · split at e
    · rename_i hz
      cases e
      exact ⟨_, rs.ints1, of_decide_eq_true hz, k.here w (.str _)⟩
    · cases e
  · cases e
def intOfD : List D → Option D
  | [.int i] => some (.int i)
  | [.bl b] => some (.int (if b then 1 else 0))
  | _ => none
theorem cd_int0 : CallD c (.type "int") intOfD := by
  refine ⟨_, call_int1, fun g H s xs ds d Q w rs e k => ?_⟩
  unfold intOfD at e
  split at e
  · cases e
    exact .inl ⟨_, rs.ints1, k.here w (.int _)⟩
  · cases e
    obtain ⟨v, rfl, r⟩ := rs.one
    exact .inr ⟨_, by rw [r.bl], k.here w (.int _)⟩
  · cases e
def intTxD : List D → Option D
  | [.str x] => if decide (x.length ≤ 640) then (PySem.intText? x).map .int else none
  | _ => none
theorem cd_intT : CallD c (.type "int") intTxD := by
  refine ⟨_, call_int_str, fun g H s xs ds d Q w rs e k => ?_⟩
  unfold intTxD at e
  split at e
  · rename_i x
    split at e
    · rename_i hz
      cases z : PySem.intText? x with
      | none => rw [z] at e; cases e
      | some n =>
        rw [z] at e
        cases e
        obtain ⟨v, rfl, r⟩ := rs.one
        exact ⟨x, n, by rw [r.str], z, of_decide_eq_true hz, k.here w (.int _)⟩
    · cases e
  · cases e
def intD : List D → Option D := or1 intOfD intTxD
theorem cd_int : CallD c (.type "int") intD := cd_int0.or cd_intT
def max2D : List D → Option D
  | [.int i, .int j] => some (.int (if j > i then j else i))
  | _ => none
def min2D : List D → Option D
  | [.int i, .int j] => some (.int (if j < i then j else i))
  | _ => none
theorem cd_max2 (hc : c.X.calm = true := by rfl) : CallD c (.builtin "max") max2D := by
  refine ⟨_, call_max2 hc, fun g H s xs ds d Q w rs e k => ?_⟩
  unfold max2D at e
  split at e
  · cases e
    exact ⟨_, _, rs.ints2, k.here w (.int _)⟩
  · cases e
theorem cd_min2 (hc : c.X.calm = true := by rfl) : CallD c (.builtin "min") min2D := by
  refine ⟨_, call_min2 hc, fun g H s xs ds d Q w rs e k => ?_⟩
  unfold min2D at e
  split at e
  · cases e
    exact ⟨_, _, rs.ints2, k.here w (.int _)⟩
  · cases e
/-- the least, the greatest of a list -/
def minL : List Int → Option Int
  | [] => none
  | x :: xs => some (xs.foldl min x)
def maxL : List Int → Option Int
  | [] => none
  | x :: xs => some (xs.foldl max x)
theorem foldl_min_le : ∀ (xs : List Int) (x : Int), xs.foldl min x ≤ x ∧ (∀ y ∈ xs, xs.foldl min x ≤ y) ∧ (xs.foldl min x = x ∨ xs.foldl min x ∈ xs)
  | [], x => ⟨Int.le_refl _, fun _ h => (nomatch h), .inl rfl⟩
  | y :: ys, x => by
    obtain ⟨h1, h2, h3⟩ := foldl_min_le ys (min x y)
    rw [List.foldl_cons]
    refine ⟨by omega, fun z hz => ?_, ?_⟩
    · rcases List.mem_cons.mp hz with rfl | hz
      · omega
      · exact h2 z hz
    · rcases h3 with h3 | h3
      · by_cases q : x ≤ y
        · exact .inl (by omega)
        · exact .inr (List.mem_cons.mpr (.inl (by omega)))
      · exact .inr (List.mem_cons_of_mem _ h3)
theorem foldl_max_le : ∀ (xs : List Int) (x : Int), x ≤ xs.foldl max x ∧ (∀ y ∈ xs, y ≤ xs.foldl max x) ∧ (xs.foldl max x = x ∨ xs.foldl max x ∈ xs)
  | [], x => ⟨Int.le_refl _, fun _ h => (nomatch h), .inl rfl⟩
  | y :: ys, x => by
    obtain ⟨h1, h2, h3⟩ := foldl_max_le ys (max x y)
    rw [List.foldl_cons]
    refine ⟨by omega, fun z hz => ?_, ?_⟩
    · rcases List.mem_cons.mp hz with rfl | hz
      · omega
      · exact h2 z hz
    · rcases h3 with h3 | h3
      · by_cases q : y ≤ x
        · exact .inl (by omega)
        · exact .inr (List.mem_cons.mpr (.inl (by omega)))
      · exact .inr (List.mem_cons_of_mem _ h3)
theorem minL_eq {ns : List Int} {m k : Int} (h : minL ns = some k) (hm : m ∈ ns) (hl : ∀ y ∈ ns, m ≤ y) : m = k := by
  cases ns with
  | nil => cases h
  | cons x xs =>
    cases h
    obtain ⟨h1, h2, h3⟩ := foldl_min_le xs x
    have a : m ≤ xs.foldl min x := by
      rcases h3 with h3 | h3
      · rw [h3]; exact hl x List.mem_cons_self
      · exact hl _ (List.mem_cons_of_mem _ h3)
    rcases List.mem_cons.mp hm with rfl | hm
    · omega
    · have := h2 m hm; omega
theorem maxL_eq {ns : List Int} {m k : Int} (h : maxL ns = some k) (hm : m ∈ ns) (hl : ∀ y ∈ ns, y ≤ m) : m = k := by
  cases ns with
  | nil => cases h
  | cons x xs =>
    cases h
    obtain ⟨h1, h2, h3⟩ := foldl_max_le xs x
    have a : xs.foldl max x ≤ m := by
      rcases h3 with h3 | h3
      · rw [h3]; exact hl x List.mem_cons_self
      · exact hl _ (List.mem_cons_of_mem _ h3)
    rcases List.mem_cons.mp hm with rfl | hm
    · omega
    · have := h2 m hm; omega
def minLD : List D → Option D
  | [.lst ds] => match intsOf ds with
    | some ns => (minL ns).map .int
    | none => none
  | _ => none
def maxLD : List D → Option D
  | [.lst ds] => match intsOf ds with
    | some ns => (maxL ns).map .int
    | none => none
  | _ => none
theorem cd_minL (hc : c.X.calm = true := by rfl) : CallD c (.builtin "min") minLD := by
  refine ⟨_, cr_min hc, fun g H s xs ds d Q w rs e k => ?_⟩
  unfold minLD at e
  split at e
  · rename_i ys
    cases z : intsOf ys with
    | none => rw [z] at e; cases e
    | some ns =>
      rw [z] at e
      dsimp only at e
      cases z2 : minL ns with
      | none => rw [z2] at e; cases e
      | some m0 =>
        rw [z2] at e
        cases e
        obtain ⟨v, rfl, r⟩ := rs.one
        obtain ⟨a, us, rfl, h1, r1⟩ := r.lst w
        rw [r1.intsOf z] at h1
        refine ⟨a, ns, rfl, SqL.of h1, ?_, fun m hm hl => ?_⟩
        · cases ns with
          | nil => cases z2
          | cons _ _ => exact Nat.succ_pos _
        · rw [minL_eq z2 hm hl]
          exact k.here w (.int _)
  · cases e
theorem cd_maxL (hc : c.X.calm = true := by rfl) : CallD c (.builtin "max") maxLD := by
  refine ⟨_, cr_max hc, fun g H s xs ds d Q w rs e k => ?_⟩
  unfold maxLD at e
  split at e
  · rename_i ys
    cases z : intsOf ys with
    | none => rw [z] at e; cases e
    | some ns =>
      rw [z] at e
      dsimp only at e
      cases z2 : maxL ns with
      | none => rw [z2] at e; cases e
      | some m0 =>
        rw [z2] at e
        cases e
        obtain ⟨v, rfl, r⟩ := rs.one
        obtain ⟨a, us, rfl, h1, r1⟩ := r.lst w
        rw [r1.intsOf z] at h1
        refine ⟨a, ns, rfl, SqL.of h1, ?_, fun m hm hl => ?_⟩
        · cases ns with
          | nil => cases z2
          | cons _ _ => exact Nat.succ_pos _
        · rw [maxL_eq z2 hm hl]
          exact k.here w (.int _)
  · cases e
def minD : List D → Option D := or1 min2D minLD
def maxD : List D → Option D := or1 max2D maxLD
theorem cd_min (hc : c.X.calm = true := by rfl) : CallD c (.builtin "min") minD := (cd_min2 hc).or (cd_minL hc)
theorem cd_max (hc : c.X.calm = true := by rfl) : CallD c (.builtin "max") maxD := (cd_max2 hc).or (cd_maxL hc)
def ordD : List D → Option D
  | [.str x] => if decide (x.length = 1) then some (.int (x.cps.getD 0 0 : Nat)) else none
  | _ => none
theorem cd_ord : CallD c (.builtin "ord") ordD := by
  refine ⟨_, call_ord, fun g H s xs ds d Q w rs e k => ?_⟩
  unfold ordD at e
  split at e
  · split at e
    · rename_i hz
      cases e
      obtain ⟨v, rfl, r⟩ := rs.one
      exact ⟨_, by rw [r.str], of_decide_eq_true hz, k.here w (.int _)⟩
    · cases e
  · cases e
def tupD : List D → Option D
  | [.lst xs] => some (.tup xs)
  | [.tup xs] => some (.tup xs)
  | _ => none
theorem cd_tup : CallD c (.type "tuple") tupD := by
  refine ⟨_, call_tuple_of, fun g H s xs ds d Q w rs e k => ?_⟩
  unfold tupD at e
  split at e
  · cases e
    obtain ⟨v, rfl, r⟩ := rs.one
    obtain ⟨a, us, rfl, h1, r1⟩ := r.lst w
    exact ⟨a, us, rfl, .inl ⟨SqL.of h1, fun l hl => k.tup w r1 hl⟩⟩
  · cases e
    obtain ⟨v, rfl, r⟩ := rs.one
    have rr := r.rep
    obtain ⟨a, us, rfl, h1, r1⟩ := r.tup w
    exact ⟨a, us, rfl, .inr ⟨h1, k.here w rr⟩⟩
  · cases e
def lstD : List D → Option D
  | [.lst xs] => some (.lst xs)
  | [.tup xs] => some (.lst xs)
  | _ => none
theorem cd_list : CallD c (.type "list") lstD := by
  refine ⟨_, call_list_of, fun g H s xs ds d Q w rs e k => ?_⟩
  unfold lstD at e
  split at e
  · cases e
    obtain ⟨v, rfl, r⟩ := rs.one
    obtain ⟨a, us, rfl, h1, r1⟩ := r.lst w
    exact ⟨a, us, rfl, .inl (SqL.of h1), fun l hl => k.lst w r1 hl⟩
  · cases e
    obtain ⟨v, rfl, r⟩ := rs.one
    obtain ⟨a, us, rfl, h1, r1⟩ := r.tup w
    exact ⟨a, us, rfl, .inr h1, fun l hl => k.lst w r1 hl⟩
  · cases e
/-! ### methods of texts, of lists -/
theorem RK.sing {g : Gh} {H : Hp} {x : V} {z : Str} (r : RK .b c.X.K g H H x (.str z)) : x = .str z := r.str
def mS1 (g : Str → Str → Option D) : D → List D → Option D
  | .str x, [.str y] => g x y
  | _, _ => none
def splitD : D → List D → Option D := mS1 fun x y => if (y.length != 0) && small (x.length + 2) then some (.lst ((Txt.split x y).map .str)) else none
theorem md_split : MtD c "str.split" splitD := by
  refine ⟨_, mt_split, fun g H s x xs dx ds d Q w rx rs e k => ?_⟩
  unfold splitD mS1 at e
  split at e
  · dsimp only at e
    split at e
    · rename_i hz
      cases e
      obtain ⟨v, rfl, r⟩ := rs.one
      have hz := Bool.and_eq_true_iff.mp hz
      refine ⟨_, _, rx.str, by rw [r.str], by simpa using hz.1, small_line hz.2, fun p hp => k.lst w (reps_strs _) hp⟩
    · cases e
  · cases e
def stripD : D → List D → Option D := mS1 fun x y => if small x.length then some (.str (Txt.stripChars x y)) else none
theorem md_strip : MtD c "str.strip" stripD := by
  refine ⟨_, mt_stripChars, fun g H s x xs dx ds d Q w rx rs e k => ?_⟩
  unfold stripD mS1 at e
  split at e
  · dsimp only at e
    split at e
    · rename_i hz
      cases e
      obtain ⟨v, rfl, r⟩ := rs.one
      exact ⟨_, _, rx.str, by rw [r.str], small_line hz, k.here w (.str _)⟩
    · cases e
  · cases e
def findD : D → List D → Option D := mS1 fun x y => some (.int (Txt.find x y))
theorem md_find : MtD c "str.find" findD := by
  refine ⟨_, mt_find, fun g H s x xs dx ds d Q w rx rs e k => ?_⟩
  unfold findD mS1 at e
  split at e
  · cases e
    obtain ⟨v, rfl, r⟩ := rs.one
    exact ⟨_, _, rx.str, by rw [r.str], k.here w (.int _)⟩
  · cases e
def startsD : D → List D → Option D := mS1 fun x y => some (.bl (Txt.startswith x y))
theorem md_starts : MtD c "str.startswith" startsD := by
  refine ⟨_, mt_startswith, fun g H s x xs dx ds d Q w rx rs e k => ?_⟩
  unfold startsD mS1 at e
  split at e
  · cases e
    obtain ⟨v, rfl, r⟩ := rs.one
    exact ⟨_, _, rx.str, by rw [r.str], k.here w (.bl _)⟩
  · cases e
def joinD : D → List D → Option D
  | .str x, [.lst ds] => match strs' ds with
    | some ys => if decide ((ys.map (·.length)).sum + ys.length * x.length ≤ 16777216) then some (.str (Txt.join x ys)) else none
    | none => none
  | _, _ => none
theorem md_join : MtD c "str.join" joinD := by
  refine ⟨_, mt_join, fun g H s x xs dx ds d Q w rx rs e k => ?_⟩
  unfold joinD at e
  split at e
  · rename_i y us
    cases z : strs' us with
    | none => rw [z] at e; cases e
    | some ys =>
      rw [z] at e
      dsimp only at e
      split at e
      · rename_i hz
        cases e
        obtain ⟨v, rfl, r⟩ := rs.one
        obtain ⟨a, us, rfl, h1, r1⟩ := r.lst w
        rw [r1.strs' z] at h1
        exact ⟨y, a, ys, rx.str, rfl, .inl (SqL.of h1), of_decide_eq_true hz, k.here w (.str _)⟩
      · cases e
  · cases e
/-- the first place of a flat thing -/
def idxV (y : V) : List V → Option Nat
  | [] => none
  | z :: zs => if eqV z y then some 0 else (idxV y zs).map (· + 1)
theorem idxV_ok {y : V} : ∀ {ys : List V} {j : Nat}, idxV y ys = some j → ∃ z, ys[j]? = some z ∧ eqV z y = true ∧ ∀ (m : Nat) (z' : V), m < j → ys[m]? = some z' → eqV z' y = false
  | z :: zs, j, e => by
    unfold idxV at e
    split at e
    · rename_i h
      cases e
      exact ⟨z, rfl, h, fun m z' hm => absurd hm (Nat.not_lt_zero m)⟩
    · rename_i h
      cases q : idxV y zs with
      | none => rw [q] at e; cases e
      | some i =>
        rw [q] at e
        cases e
        obtain ⟨u, h1, h2, h3⟩ := idxV_ok q
        refine ⟨u, h1, h2, fun m z' hm hz => ?_⟩
        cases m with
        | zero => cases hz; simpa using h
        | succ m => exact h3 m z' (Nat.lt_of_succ_lt_succ hm) hz
def indexD : D → List D → Option D
  | .lst ds, [y] => match scalDs ds, scalD y with
    | some vs, some u => (idxV u vs).map fun j => .int (j : Nat)
    | _, _ => none
  | _, _ => none
theorem md_index : MtD c "list.index" indexD := by
  refine ⟨_, mt_index, fun g H s x xs dx ds d Q w rx rs e k => ?_⟩
  unfold indexD at e
  split at e
  · rename_i us y
    split at e
    · rename_i vs u z1 z2
      cases q : idxV u vs with
      | none => rw [q] at e; cases e
      | some j =>
        rw [q] at e
        cases e
        obtain ⟨v, rfl, r⟩ := rs.one
        obtain ⟨a, ws, rfl, h1, r1⟩ := rx.lst w
        have ev := r1.scals z1
        subst ev
        obtain ⟨z, k1, k2, k3⟩ := idxV_ok q
        exact ⟨a, _, u, j, z, rfl, by rw [r.scal z2], SqL.of h1, scal_flat z2, scals_flat z1, k1, k2, k3, k.here w (.int _)⟩
    · cases e
  · cases e
/-! ### isinstance -/
def tyN : D → Option String
  | .non => some "NoneType"
  | .bl _ => some "bool"
  | .int _ => some "int"
  | .str _ => some "str"
  | .tup _ => some "tuple"
  | .lst _ => some "list"
  | .dct _ => some "dict"
  | _ => none
def isiD (T : String) : D → Option D := fun d => match tyN d with
  | some t => (kitB t T).map .bl
  | none => none
theorem RK.tyx {T : List (Addr × Str)} {g : Gh} {H : Hp} {s : Sto} {v : V} {d : D} {t : String} (w : WF c.X.K T g H s) (r : RK .b c.X.K g H H v d) (e : tyN d = some t) : TyX c.X.K H v (.type t) := by
  cases d with
  | non => cases e; rw [r.non]; exact .base .non
  | bl b => cases e; rw [r.bl]; exact .base (.bl b)
  | int b => cases e; rw [r.int]; exact .base (.int b)
  | str b => cases e; rw [r.str]; exact .base (.str b)
  | tup ds =>
    cases e
    obtain ⟨a, xs, rfl, h1, _⟩ := r.tup w
    rcases h1 with (h1 | ⟨o, h1⟩) | ⟨o, its, n, h1, h2, _⟩
    · exact .base (.tup h1)
    · exact .fTuple h1
    · exact .kTuple h1 h2
  | lst ds =>
    cases e
    obtain ⟨a, xs, rfl, h1, _⟩ := r.lst w
    exact .base (.lst h1)
  | dct ds =>
    cases e
    obtain ⟨a, ks, xs, es, rfl, _, h1, _⟩ := r.dct w
    exact .base (.dK h1)
  | scr _ => cases e
  | obj _ => cases e
  | exc _ => cases e
theorem de_isi {e : Expr} {f : ED} {x : Str} {T : String} {p p2 pos : Pos} (he : DE .b c e f) (hm : c.X.mg "isinstance" = none) (hmT : c.X.mg x = none) (hT : bootBuiltins x = some (.type T)) (hg : Gl c.X "isinstance" := by rfl) (hgT : Gl c.X x := by rfl)
    (hn : x ≠ "__name__" := by decide) (hdb : (x == ("__debug__" : Str)) = false := by decide)
    (hs : starEach [e, .Name x p2] c.X.env = (false, eval e c.X.env) :: starEach [.Name x p2] c.X.env := by rfl) (hs2 : starEach [.Name x p2] c.X.env = (false, eval (.Name x p2) c.X.env) :: starEach [] c.X.env := by rfl) (hpl : (backTo pos (starEach [.Name x p2] c.X.env)).any (·.1) = false := by rfl) :
    DE .o c (.Call (.Name "isinstance" p) [e, .Name x p2] [] pos) (e1 (isiD T) f) := by
  obtain ⟨t, pt, qt⟩ := he
  refine de_mk (pe_callB call_isi hg hm (by decide +kernel) (pa_cons pt (pa_cons (pe_bltn (v := .ty T) hgT hmT hT rfl hn hdb) pa_nil hs2) hs) (by decide) (by decide) hs hpl) fun g H s σ τ Q o h => qt g H s σ τ _ o (Pg.seq h fun d s1 g1 H1 _ e1 w1 h1 v rv => ?_)
  obtain ⟨d', ed, k⟩ := h1.opt
  unfold isiD at ed
  split at ed
  · rename_i t z
    cases q : kitB t T with
    | none => rw [q] at ed; cases ed
    | some b =>
      rw [q] at ed
      cases ed
      exact ⟨v, .ty T, .type t, .type T, b, rfl, .ty T, rv.tyx w1 z, kit_ty q, k g1 H1 (Ext.refl _ _) w1 _ (.of (.bl b))⟩
  · cases ed
/-! ### further walks -/
def iStrD (f : ED) : AD := fun τ s => (f τ s).bind fun d => match d with
  | .str x => M.ret (x.cps.toList.map fun k => .str ⟨#[k]⟩)
  | _ => fun _ => .no
theorem di_str {tg e : Expr} {f : ED} {k : Kd} (h : DE k c e f) : DI c tg e (iStrD f) := by
  obtain ⟨t, p, q⟩ := h
  refine ⟨iStr t, pi_str p, fun g H s σ τ R o h => q g H s σ τ _ o (Pg.seq h fun d s1 g1 H1 _ e1 w1 h1 v rv => ?_)⟩
  cases d with
  | str x =>
    have hsz : x.cps.toList.length = x.cps.size := by simp
    refine ⟨x, rv.str, Pg.now h1 w1 _ ⟨fun i d hd g2 H2 s2 l2 w2 => ?_, fun g2 H2 s2 l2 w2 => ?_⟩⟩
    · rw [List.getElem?_map] at hd
      cases z : x.cps.toList[i]? with
      | none => rw [z] at hd; cases hd
      | some m =>
        rw [z] at hd
        cases hd
        have hlt := (List.getElem?_eq_some_iff.mp z).1
        refine ⟨by show i < x.cps.size; omega, fun y H3 hy => ⟨g2, by rw [hy.1]; exact Ext.refl _ _, by rw [hy.1]; exact w2, ?_⟩⟩
        obtain ⟨m', hm, rfl⟩ := hy.2
        have : x.cps[i]? = some m := by rw [← Array.getElem?_toList]; exact z
        rw [this] at hm; cases hm
        exact .str _
    · show x.cps.size ≤ _
      rw [List.length_map]; omega
  | _ => exact h1.elim
def pairs : List D → List D → List D
  | x :: xs, y :: ys => .tup [x, y] :: pairs xs ys
  | _, _ => []
theorem pairs_get : ∀ (xs ys : List D) (i : Nat) (d : D), (pairs xs ys)[i]? = some d → ∃ x y, xs[i]? = some x ∧ ys[i]? = some y ∧ d = .tup [x, y]
  | [], _, _, _, h => by simp [pairs] at h
  | _ :: _, [], _, _, h => by simp [pairs] at h
  | x :: xs, y :: ys, 0, d, h => by simp [pairs] at h; exact ⟨x, y, rfl, rfl, h.symm⟩
  | x :: xs, y :: ys, i + 1, d, h => pairs_get xs ys i d (by simpa [pairs] using h)
theorem pairs_len : ∀ (xs ys : List D), (pairs xs ys).length = min xs.length ys.length
  | [], _ => by simp [pairs]
  | _ :: _, [] => by simp [pairs]
  | x :: xs, y :: ys => by simp [pairs, pairs_len xs ys]
def zipD : List D → Option (List D)
  | [.lst xs, .lst ys] => some (pairs xs ys)
  | _ => none
theorem gives_new {g1 g2 g3 : Gh} {H2 H3 : Hp} {s : Sto} {T : Addr} {xs : List V} {ds : List D} (w2 : WF c.X.K c.T g2 H2 s) (hT : H2 T = none) (r : Reps c.X.K g2 xs ds) (e : H3 = upd H2 T (.tup xs)) :
    ∃ g3, Ext g2 H2 g3 H3 ∧ WF c.X.K c.T g3 H3 s ∧ Rep c.X.K g3 (.ref T) (.tup ds) := by
  subst e
  exact ⟨_, w2.extF hT, w2.newF hT fun ps => by simp, .tup (SqT.of Gh.frz_at) (r.mono (Gh.frz_le (.inl (w2.gne hT))))⟩
theorem Rep.lstG {K : PySem.W.Frag} {g : Gh} {v : V} {ds : List D} (h : Rep K g v (.lst ds)) : ∃ a xs, v = .ref a ∧ g.G a = some (.lst xs) ∧ Reps K g xs ds := by
  cases h with
  | lst h r => exact ⟨_, _, rfl, h, r⟩
theorem di_zip {e e2 : Expr} {f : AD} {elts : List Expr} {kk : Nat} {p pos tpos : Pos} (ha : DA .z c [e, e2] f) (hm : c.X.mg "zip" = none) (hg : Gl c.X "zip" := by rfl)
    (hs : starEach [e, e2] c.X.env = (false, eval e c.X.env) :: starEach [e2] c.X.env := by rfl) (hpl : (backTo pos (starEach [e2] c.X.env)).any (·.1) = false := by rfl) : DI c (.Tuple elts kk tpos) (.Call (.Name "zip" p) [e, e2] [] pos) (iN zipD f) := by
  obtain ⟨t, pt, qt⟩ := ha
  refine ⟨iZip c.X.K t, pi_zip hg hm pt hs hpl, fun g H s σ τ R o h => qt g H s σ τ _ o (Pg.seq h fun xs s1 g1 H1 er e1 w1 h1 vs rs => ?_)⟩
  clear er
  obtain ⟨b, eb, k⟩ := h1.opt
  unfold zipD at eb
  split at eb
  · rename_i xs ys
    cases eb
    obtain ⟨v, u, rfl, r1, r2⟩ := rs.two
    obtain ⟨a, us, rfl, h1, q1⟩ := Rep.lstG r1
    obtain ⟨a', us', rfl, h2, q2⟩ := Rep.lstG r2
    refine ⟨a, a', us, us', rfl, SqL.of (w1.sub _ _ h1), SqL.of (w1.sub _ _ h2), k g1 H1 (Ext.refl _ _) w1 _ ⟨fun i d hd g2 H2 s2 l2 w2 => ?_, fun g2 H2 s2 l2 w2 => ?_⟩⟩
    · obtain ⟨x, y, hx, hy, rfl⟩ := pairs_get xs ys i d hd
      obtain ⟨vx, hvx, rx⟩ := q1.get hx
      obtain ⟨vy, hvy, ry⟩ := q2.get hy
      have sa : SqL c.X.K H2 a us := SqL.of (w2.sub _ _ (l2.G _ _ h1))
      have sb : SqL c.X.K H2 a' us' := SqL.of (w2.sub _ _ (l2.G _ _ h2))
      refine ⟨⟨us, us', vx, vy, sa, sb, hvx, hvy⟩, fun z H3 hz => ?_⟩
      obtain ⟨T, x1, x2, rfl, hT, e3, f1, f2⟩ := hz
      have z1 := f1 us sa
      have z2 := f2 us' sb
      rw [hvx] at z1; cases z1
      rw [hvy] at z2; cases z2
      exact gives_new (g1 := g1) (g3 := g1) w2 hT (.cons (rx.mono l2) (.cons (ry.mono l2) .nil)) e3
    · refine ⟨us, us', SqL.of (w2.sub _ _ (l2.G _ _ h1)), SqL.of (w2.sub _ _ (l2.G _ _ h2)), ?_⟩
      rw [pairs_len, q1.length, q2.length]
      omega
  · cases eb
def enumFrom (n : Nat) : List D → List D
  | [] => []
  | x :: xs => .tup [.int (n : Nat), x] :: enumFrom (n + 1) xs
theorem enum_get : ∀ (xs : List D) (n i : Nat) (d : D), (enumFrom n xs)[i]? = some d → ∃ x, xs[i]? = some x ∧ d = .tup [.int ((n + i : Nat) : Int), x]
  | [], _, _, _, h => by simp [enumFrom] at h
  | x :: xs, n, 0, d, h => by simp [enumFrom] at h; exact ⟨x, rfl, by rw [← h]; simp⟩
  | x :: xs, n, i + 1, d, h => by
    obtain ⟨y, h1, h2⟩ := enum_get xs (n + 1) i d (by simpa [enumFrom] using h)
    have e : n + 1 + i = n + (i + 1) := by omega
    rw [e] at h2
    exact ⟨y, h1, h2⟩
theorem enum_len : ∀ (xs : List D) (n : Nat), (enumFrom n xs).length = xs.length
  | [], _ => rfl
  | x :: xs, n => by simp [enumFrom, enum_len xs (n + 1)]
def enumD : List D → Option (List D)
  | [.lst xs] => some (enumFrom 0 xs)
  | _ => none
theorem di_enum {e : Expr} {f : AD} {elts : List Expr} {kk : Nat} {p pos tpos : Pos} (ha : DA .z c [e] f) (hm : c.X.mg "enumerate" = none) (hg : Gl c.X "enumerate" := by rfl)
    (hs : starEach [e] c.X.env = [(false, eval e c.X.env)] := by rfl) : DI c (.Tuple elts kk tpos) (.Call (.Name "enumerate" p) [e] [] pos) (iN enumD f) := by
  obtain ⟨t, pt, qt⟩ := ha
  refine ⟨iEnum c.X.K t, pi_enum hg hm pt hs, fun g H s σ τ R o h => qt g H s σ τ _ o (Pg.seq h fun xs s1 g1 H1 er e1 w1 h1 vs rs => ?_)⟩
  clear er
  obtain ⟨b, eb, k⟩ := h1.opt
  unfold enumD at eb
  split at eb
  · rename_i xs
    cases eb
    obtain ⟨v, rfl, r1⟩ := rs.one
    obtain ⟨a, us, rfl, h1, q1⟩ := Rep.lstG r1
    refine ⟨a, us, rfl, SqL.of (w1.sub _ _ h1), k g1 H1 (Ext.refl _ _) w1 _ ⟨fun i d hd g2 H2 s2 l2 w2 => ?_, fun g2 H2 s2 l2 w2 => ?_⟩⟩
    · obtain ⟨x, hx, rfl⟩ := enum_get xs 0 i d hd
      obtain ⟨vx, hvx, rx⟩ := q1.get hx
      have sa : SqL c.X.K H2 a us := SqL.of (w2.sub _ _ (l2.G _ _ h1))
      refine ⟨⟨us, vx, sa, hvx⟩, fun z H3 hz => ?_⟩
      obtain ⟨T, x1, rfl, hT, e3, f1⟩ := hz
      have z1 := f1 us sa
      rw [hvx] at z1; cases z1
      rw [Nat.zero_add]
      exact gives_new (g1 := g1) (g3 := g1) w2 hT (.cons (.int _) (.cons (rx.mono l2) .nil)) e3
    · refine ⟨us, SqL.of (w2.sub _ _ (l2.G _ _ h1)), ?_⟩
      rw [enum_len, q1.length]
      exact Nat.le_refl _
  · cases eb
end
end Mir

set_option Elab.async false
set_option linter.all false
set_option maxRecDepth 100000
set_option maxHeartbeats 4000000
/-! Mir, part W: walks of lists where an exception is handled. -/
namespace Mir
open PySem PySem.Spec PyProof.Rows L2 HotX L2H
section
variable {prog : Program} {w : World} {A : Around} {E : Value → Shared → Prop} {s : Shared}
theorem hot_ne {it l x1 : Addr} {i : Nat} {h : Heap} (hot : HotAt A x1 h) (hit : h.IsListIter it l i) : x1 ≠ it := fun z => by
  obtain ⟨_, o, vs, h1, d1, c1⟩ := hot
  obtain ⟨o', h2, _, d2⟩ := hit
  rw [z, h2] at h1
  cases h1
  rw [d2] at d1
  cases d1
  simp at c1
theorem pyNext_list_end_hot {it l x1 : Addr} {i : Nat} {items : Array Value} {Q : Option Value → Shared → Prop} (hot : HotAt A x1 s.heap)
    (hit : s.heap.IsListIter it l i) (hl : s.heap.IsList l items) (hx : items[i]? = none)
    (hQ : ∀ h', Heap.ExtBut it s.heap h' → Q none { s with heap := h' }) : wpAny (model prog w) A (pyNext (.ref it)) Q E s := by
  have hne : x1 ≠ it := hot_ne hot hit
  obtain ⟨hh, o1, vs1, h1, d1, c1⟩ := hot
  obtain ⟨o, ho, hc, hd⟩ := id hit
  obtain ⟨ol, hol, _, nl, hdl⟩ := hl
  unfold pyNext
  refine wpAny_bind (wpAny_attempt (wpAny_callSpecial?_slot (name := Str.ofString "__next__") hit.typeIs slot_listiter_next
    (wpAny_call_entry slot_listiter_next hit.typeIs entry_listiter_next ?_ (args_listiter_next _))))
  show wpAny _ _ (field (.ref it) 0 >>= _) _ _ s
  refine wpAny_bind (wpAny_field ho hd (x := .ref l) rfl ?_)
  show wpAny _ _ (if (Value.ref l == Value.none) = true then _ else _) _ _ s
  rw [if_neg (show ¬ ((Value.ref l == Value.none) = true) from Bool.false_ne_true)]
  show wpAny _ _ (field (.ref it) 1 >>= _) _ _ s
  refine wpAny_bind (wpAny_field ho hd (x := .int i 0) rfl ?_)
  show wpAny _ _ (seqItems? (.ref l) >>= _) _ _ s
  refine wpAny_bind (wpAny_seqItems hol hdl ?_)
  simp only [Int.toNat_natCast, hx]
  refine wpAny_bind (wpAny_rule (wpAny_bind (wpAny_setField ho hd (by simp) ?_)))
  show wpAny _ _ (newExc (.type "StopIteration") [] >>= _) _ _ _
  refine wpAny_bind ?_
  simp only [newExc, newTuple]
  refine wpAny_bind (wpAny_newObj_type ?_ (by size_fits))
  refine wpAny_bind (m := firstArgMember _ _) (wpAny_of_eq (a := Value.none) (by first | rfl | (simp only [firstArgMember]; rfl)) ?_)
  refine wpAny_newObj_type ?_ (by size_fits)
  refine raiseNew_hot ⟨hh, o1, vs1, Heap.get?_push_of_some _ (Heap.get?_push_of_some _ ?_), d1, c1⟩ (Nat.ne_of_lt ?_) (Heap.get?_push_size _ rfl) rfl (by first | (simp; done) | (simp; omega) | (simp only [Array.size_append]; simp; omega)) ?_
  · rw [Heap.get?_update_other _ _ (Ne.symm hne)]
    exact h1
  · refine Heap.lt_size (o := o1) (Heap.get?_push_of_some _ ?_)
    rw [Heap.get?_update_other _ _ (Ne.symm hne)]
    exact h1
  refine wpAny_bind (wpAny_isInstance (T := "StopIteration") (b := true) ⟨_, Heap.get?_update_self _ (Heap.get?_push_size _ rfl) rfl, rfl⟩ isSubtype_stop ?_)
  refine wpAny_pure (hQ _ fun b o hb e => ?_)
  have key : ∀ (h0 : Heap) (o2 : Obj) (f : Obj → Obj), h0.get? b = some o → ((h0.push o2).update h0.objs.size f).get? b = some o := fun h0 o2 f z => by
    rw [Heap.get?_update_other _ _ (Nat.ne_of_gt (Heap.lt_size z))]
    exact Heap.get?_push_of_some _ z
  exact key _ _ _ (((Heap.SameBut.update ..).extBut.push _) b o hb e)
theorem walks_hot {x1 : Addr} {o1 : Obj} {vs1 : Array Value} (hh : A.handled = some (.ref x1)) (d1 : o1.data = .fields vs1) (c1 : vs1[2]? = some .none) (I ax : Addr) (hne : ax ≠ I) (hn1 : x1 ≠ I) (items : Array Value) :
    Walks prog w A I [I, ax, x1] [I] items.size (fun i v => items[i]? = some v) (fun i h => h.IsListIter I ax i ∧ h.IsList ax items ∧ h.get? x1 = some o1) where
  sub := fun b hb => by simp at hb; simp [hb]
  frame := fun _ _ _ st hk => ⟨st.1.at fun o e => hk I (by simp) o e, st.2.1.at fun o e => hk ax (by simp) o e, hk x1 (by simp) _ st.2.2⟩
  item := fun i s Q E hi st hQ => by
    refine wpAny_pyNext_list_item st.1 st.2.1 (x := items[i]) (by simp [hi]) fun h' hit' hs' => ?_
    exact hQ _ h' s.toks (by simp [hi]) ⟨hit', st.2.1.extBut hs'.extBut hne, hs'.extBut _ _ hn1 st.2.2⟩ fun b o hb e => hs'.extBut b o (fun h => hb (by simp [h])) e
  done := fun s Q E st hQ => pyNext_list_end_hot ⟨hh, o1, vs1, st.2.2, d1, c1⟩ st.1 st.2.1 (by simp) fun h' he' => hQ h' s.toks fun b o hb e => he' b o (fun h => hb (by simp [h])) e
  self := fun _ _ _ _ st hQ => wpAny_pyIter_listiter st.1 hQ
theorem sum_hot {x1 l : Addr} {its : List Value} {ns : List Int} {Q : Value → Shared → Prop} (hot : HotAt A x1 s.heap) (hl : s.heap.IsList l its.toArray) (hi : IntsAre its ns)
    (h : ∀ h' tk t', (∀ b o, s.heap.get? b = some o → h'.get? b = some o) → Q (.int ns.sum t') { s with heap := h', toks := tk }) : wpAny (model prog w) A (call (.builtin "sum") [.ref l]) Q E s := by
  obtain ⟨xs, e⟩ := hi.allInts.items
  have hn : numsOf (intItems xs).toList = ns := by rw [← e]; exact hi.numsOf
  rw [nums_intItems] at hn
  rw [e] at hl
  obtain ⟨hh, o1, vs1, h1, d1, c1⟩ := hot
  refine call_sum_walkG (iter_intList hl fun s₂ e st hfp hlI => ?_)
  subst e
  have h1' : (s.heap.push { cls := .type "list_iterator", data := .fields #[.ref l, .int 0 0] }).get? x1 = some o1 := Heap.get?_push_of_some _ h1
  refine ⟨_, _, _, _, _, _, numAt xs, rfl, walks_hot (A := A.in1) hh d1 c1 _ l hlI (Nat.ne_of_lt (Heap.lt_size h1)) (intItems xs), ⟨st.1, st.2, h1'⟩, fun b hb => ?_, (fun _ _ => intItems_at), fun h' tk t' hk => ?_⟩
  · rcases List.mem_cons.mp hb with rfl | hb
    · exact hfp _ (by simp)
    · rcases List.mem_cons.mp hb with rfl | hb
      · exact hfp _ (by simp)
      · have : b = x1 := by simpa using hb
        subst this
        exact Heap.lt_size h1'
  have := h h' tk t' (old_kept hk)
  rw [show ns.sum = preSum (numAt xs) xs.size by rw [preSum_eq, List.take_of_length_le (by simp), hn]] at this
  simpa [intItems] using this
end
section
variable {X : Cx}
theorem cr_sumH (hc : HotC X) : CallR X (.builtin "sum") (rSum X.K) := by
  intro pins s σ H vs us Q I r h
  obtain ⟨x1, hot⟩ := hc.at I
  obtain ⟨a, ns, rfl, hs, q⟩ := h
  obtain ⟨its, rv, hl, _⟩ := I.list hs
  rw [Vals.ref1 r]
  exact sum_hot hot hl.isList rv.ints fun h' tk t' hk => ⟨.int _, H, I.kept hk, ⟨_, rfl⟩, q⟩
structure TurnW (P : Program) (w : World) (K : PySem.W.Frag) (tg : Expr) (J : It) (fp : List Addr) (it : Addr) (tn : Nat → Heap → Prop) : Prop where
  mem : it ∈ fp
  obj : ∀ i h, tn i h → ∀ b ∈ fp, ∃ o, h.get? b = some o ∧ ∀ v, o.data ≠ .cell v
  keep : ∀ i h h', tn i h → (∀ b ∈ fp, ∀ o, h.get? b = some o → h'.get? b = some o) → tn i h'
  item : ∀ (X : Cx), X.prog = P → X.w = w → X.K = K → ∀ {s : Shared}, (∃ x1, HotAt X.A x1 s.heap) → ∀ (i : Nat) (pins : List (Addr × Obj)) (s' : Shared) (σ : St) (H : Hp) (E : Value → Shared → Prop), s' = s → Inv X pins σ H s → (∀ b ∈ fp, FpOk X pins H b) → tn i s.heap → J.go i H →
    wpAny (model P w) X.A (pyNext (.ref it)) (fun r s1 => ∃ u, r = some u ∧
      wpAny (model P w) X.A (letOwnedTupleGo tg (.ref it) u) (fun _ s2 => ∃ x H', Inv X pins σ H' s2 ∧ RelV x u ∧ J.yld i H x H' ∧ tn (i + 1) s2.heap ∧ ∀ b ∈ fp, H' b = none) E s1) E s
  done : ∀ (X : Cx), X.prog = P → X.w = w → X.K = K → ∀ {s : Shared}, (∃ x1, HotAt X.A x1 s.heap) → ∀ (i : Nat) (pins : List (Addr × Obj)) (s' : Shared) (σ : St) (H : Hp) (E : Value → Shared → Prop), s' = s → Inv X pins σ H s → (∀ b ∈ fp, FpOk X pins H b) → tn i s.heap → J.stop i H →
    wpAny (model P w) X.A (pyNext (.ref it)) (fun r s1 => r = none ∧ Inv X pins σ H s1) E s
  self : ∀ (A : Around) (i : Nat) (s : Shared) (Q : Value → Shared → Prop) (E : Value → Shared → Prop), tn i s.heap → Q (.ref it) s → wpAny (model P w) A (pyIter (.ref it)) Q E s
theorem turn_listW {P : Program} {w : World} {K : PySem.W.Frag} {tg : Expr} (a it : Addr) : TurnW P w K tg (Itl K a) [it] it (fun i h => h.IsListIter it a i) where
  mem := by simp
  obj := fun i h st b hb => by
    have e : b = it := by simpa using hb
    subst e
    obtain ⟨o, e, c, d⟩ := st
    exact ⟨o, e, fun v z => by rw [d] at z; cases z⟩
  keep := fun i h h' st k => st.at fun o e => k it (by simp) o e
  item := by
    intro X hP hw hK s hc i pins s' σ H E _ I hf st hg
    subst hP hw hK
    obtain ⟨xs, x, hq, hx⟩ := hg
    obtain ⟨its, rv, p, hz⟩ := I.list hq
    obtain ⟨u, hu, ru⟩ := rv.get hx
    obtain ⟨f0, f1, f2, f3, f4, f5⟩ := hf it (by simp)
    refine wpAny_pyNext_list_item st p.isList (x := u) (by simpa using hu) fun h' st' sb => ?_
    have I1 : Inv X pins σ H { s with heap := h' } := I.turned (t' := s.toks) (fun b o hb e => (sb.2 b hb).trans e) f0 f1 f3 f4 f5
    obtain ⟨o, e, c, d⟩ := id st'
    exact ⟨u, rfl, go_of (s := { s with heap := h' }) e c d (by decide) ⟨x, H, I1, ru, ⟨rfl, fun ys hy => by rw [I.list_inj hy hq]; exact hx⟩, st', fun b hb => (hf b hb).1⟩⟩
  done := by
    intro X hP hw hK s hc i pins s' σ H E _ I hf st hg
    subst hP hw hK
    obtain ⟨xs, hq, hx⟩ := hg
    obtain ⟨its, rv, p, hz⟩ := I.list hq
    obtain ⟨f0, f1, f2, f3, f4, f5⟩ := hf it (by simp)
    obtain ⟨x1, hot⟩ := hc
    have hl := rv.length
    exact pyNext_list_end_hot hot st p.isList (by simp; omega) fun h' eb => ⟨rfl, I.turned (t' := s.toks) (fun b o hb e => eb b o hb e) f0 f1 f3 f4 f5⟩
  self := fun _ _ _ _ _ st h => wpAny_pyIter_listiter st h
def PIEW (X : Cx) (pins : List (Addr × Obj)) (σ : St) (tg : Expr) (R : It → Hp → Prop) (itv : Value) (s2 : Shared) : Prop :=
  ∃ (it : Addr) (fp : List Addr) (tn : Nat → Heap → Prop) (J : It) (H' : Hp), itv = .ref it ∧ Inv X pins σ H' s2 ∧ TurnW X.prog X.w X.K tg J fp it tn ∧ tn 0 s2.heap ∧ (∀ b ∈ fp, FpOk X pins H' b) ∧ R J H'
structure PIW (X : Cx) (tg iter : Expr) (wi : TI) : Prop where
  run : ∀ (pins : List (Addr × Obj)) (s : Shared) (σ : St) (H : Hp) (R : It → Hp → Prop), Inv X pins σ H s → wi σ H R →
    wpAny (model X.prog X.w) X.A (eval iter X.env) (fun v s1 => wpAny (model X.prog X.w) X.A (pyIter v) (PIEW X pins σ tg R) X.xe s1) X.xe s
theorem pi_listW {tg l : Expr} {tl : TE} (hl : PE X l tl) : PIW X tg l (iList X.K tl) := by
  refine ⟨fun pins s σ H R I h => ?_⟩
  refine thn (hl.run pins s σ H _ I h) fun v s1 ⟨x, H1, I1, r1, q1⟩ => ?_
  obtain ⟨a, e, ⟨xs, hq⟩, q⟩ := q1
  subst e
  cases r1
  obtain ⟨its, rv, p, hz⟩ := I1.list hq
  refine wpAny_pyIter_list p.isList ?_
  refine ⟨s1.heap.objs.size, [s1.heap.objs.size], _, _, H1, rfl, I1.kept (t' := s1.toks) fun b o e => Heap.get?_push_of_some _ e, turn_listW a _, ⟨_, Heap.get?_push_size _ rfl, rfl, rfl⟩, fun b hb => ?_, q⟩
  have e : b = s1.heap.objs.size := by simpa using hb
  subst e
  exact I1.fpOk (Nat.le_refl _) (I1.hok.fresh (Nat.le_refl _))
theorem lc_coreH {pins : List (Addr × Obj)} {s : Shared} {σ : St} {H : Hp} {Q : VK} {elt tg iter : Expr} {ifs : List Expr} {scope : Scope} {own : List (Str × Nat)} {pos pos' : Pos} {wi : TI} {g : TG} {tt : TT} {te : TE} {use : Option (Value → Sem Unit)} {Qf : Value → Shared → Prop}
    (hc : HotC X) (hN : X.N.Nodup) (I : Inv X pins σ H s) (hi : PIW X tg iter wi) (ok : BlkOk X.N X.env.scope scope own)
    (hg : ∀ (s : Shared) (H : Hp) (C : Addr) (cl : List (Str × Addr)) (fp : List Addr), PG (X.blk s H scope (compEnvC scope cl C X.env) fp) tg g) (ht : ∀ (s : Shared) (H : Hp) (C : Addr) (cl : List (Str × Addr)) (fp : List Addr), PTs (X.blk s H scope (compEnvC scope cl C X.env) fp) ifs tt)
    (he : ∀ (s : Shared) (H : Hp) (C : Addr) (cl : List (Str × Addr)) (fp : List Addr), PE (X.blk s H scope (compEnvC scope cl C X.env) fp) elt te) (hs : ∀ x, foldedSetIterable iter X.env x = pure x)
    (h : tLc wi g tt te (own.map (·.2)) σ H Q)
    (hRR : ∀ D C s' m H', Inv X pins σ H' s' → Q (.ref D) H' → s'.heap.Ns C m → FpOk X pins H' C → compPost (model X.prog X.w) X.A X.xe use Qf (.ref D) C (.ok .next) s') :
    wpAny (model X.prog X.w) X.A (comprehension (.ListComp elt [⟨tg, iter, ifs, 0⟩] scope pos) scope X.env pos' (newList []) false (eval iter X.env) use) Qf X.xe s := by
  have hfree : ∀ y ∈ scope.names, y.2 = .free → ∃ c, X.env.cells.lookup y.1 = some c := fun y hy e => by
    rcases ok.free y hy e with k | k
    · exact I.ok.has _ (.inl k)
    · exact I.ok.has _ (.inr k)
  refine wpAny_comprehension_free (use := use) rfl hs (closure_ok hfree) ok.kind (fun y hy e => by rw [ok.uniq y hy, e])
    (thn (hi.run pins s σ H _ I h) fun xv s1 hx => thn hx fun itv s2 h2 => ?_)
  obtain ⟨it, fp, tn, J, H2, e, I2, T, st2, f2, q⟩ := h2
  subst e
  refine wpAny_newObj_type (newEnv_comp ?_) (by show 0 ≤ sizeLine; decide)
  generalize hD : s2.heap.objs.size = D
  have hDn : H2 D = none := I2.hok.fresh (Nat.le_of_eq hD)
  obtain ⟨W, ⟨m0, w0⟩, turn⟩ := q D hDn
  -- the new list
  generalize hs3 : ({ s2 with heap := s2.heap.push { cls := .type "list", data := .seq ([] : List Value).toArray } } : Shared) = s3
  have I3 : Inv X pins σ (upd H2 D (.lst [])) s3 := by
    rw [← hs3]
    refine I2.laid (t' := s2.toks) (fun b o e => Heap.get?_push_of_some _ e) (Nat.le_of_eq hD) ⟨Nat.zero_le _, [], 0, .nil, ?_⟩
    rw [← hD]
    exact Heap.get?_push_size _ rfl
  have h3 : s3.heap = s2.heap.push { cls := .type "list", data := .seq ([] : List Value).toArray } := by rw [← hs3]
  have sz : ∀ b ∈ fp, b < s2.heap.objs.size := fun b hb => by
    obtain ⟨o, e, _⟩ := T.obj _ _ st2 b hb
    exact Heap.lt_size e
  have f3 : ∀ b ∈ fp, FpOk X pins (upd H2 D (.lst [])) b ∧ b < s3.heap.objs.size := fun b hb => by
    have hlt := sz b hb
    refine ⟨⟨?_, (f2 b hb).2⟩, by rw [h3, Heap.size_push]; exact Nat.lt_succ_of_lt hlt⟩
    rw [upd_ne (by rw [← hD]; exact Nat.ne_of_lt hlt)]
    exact (f2 b hb).1
  have st3 : tn 0 s3.heap := T.keep _ _ _ st2 fun b _ o e => by rw [h3]; exact Heap.get?_push_of_some _ e
  have I4 := block_start I3 ok hN f3
  have pg := hg s3 (upd H2 D (.lst [])) s3.heap.objs.size (cellsFrom (s3.heap.objs.size + 1) scope.names (cloFrom X.env.cells scope.names [])) fp
  have pt := ht s3 (upd H2 D (.lst [])) s3.heap.objs.size (cellsFrom (s3.heap.objs.size + 1) scope.names (cloFrom X.env.cells scope.names [])) fp
  have pe := he s3 (upd H2 D (.lst [])) s3.heap.objs.size (cellsFrom (s3.heap.objs.size + 1) scope.names (cloFrom X.env.cells scope.names [])) fp
  show codeAny _ _ (.compStart (.ListComp elt [⟨tg, iter, ifs, 0⟩] scope pos) 0 (.ref it) (.ref D) (compEnvC scope (cellsFrom (s3.heap.objs.size + 1) scope.names (cloFrom X.env.cells scope.names [])) s3.heap.objs.size X.env)) (compPost (model X.prog X.w) X.A X.xe use Qf (.ref D) s3.heap.objs.size) { s3 with heap := pushCells (s3.heap.push { cls := .type "dict", data := .dict #[] }) scope.names }
  have nfp : ∀ b ∈ fp, (upd H2 D (.lst [])) b = none := fun b hb => (f3 b hb).1.1
  generalize hce : compEnvC scope (cellsFrom (s3.heap.objs.size + 1) scope.names (cloFrom X.env.cells scope.names [])) s3.heap.objs.size X.env = ce at I4 pg pt pe ⊢
  have cL : ce.locals = s3.heap.objs.size := by subst hce; rfl
  generalize hH3 : upd H2 D (.lst []) = H3 at I3 I4 pg pt pe w0 nfp f3
  generalize hs4 : ({ s3 with heap := pushCells (s3.heap.push { cls := .type "dict", data := .dict #[] }) scope.names } : Shared) = s4 at I4 ⊢
  have st4 : tn 0 s4.heap := T.keep _ _ _ st3 fun b _ o e => by rw [← hs4]; exact pushCells_keeps _ _ _ _ (Heap.get?_push_of_some _ e)
  have stat : ∀ {σ' : St} {H' : Hp} {s' : Shared}, Inv (X.blk s3 H3 scope ce fp) [] σ' H' s' → (∀ b ∈ fp, H' b = none) → ∀ b ∈ fp, FpOk (X.blk s3 H3 scope ce fp) [] H' b := fun {σ' H' s'} I' hn b hb =>
    ⟨hn b hb, (I'.ok.exf b hb).1, I'.ok.exfs b hb, .inl hb, fun x c e => (I'.ok.exf b hb).2 x c e, fun p hp => absurd (show p ∈ ([] : List (Addr × Obj)) ++ [] from hp) (by simp)⟩
  have hotB : ∀ {σ' : St} {H' : Hp} {s' : Shared}, Inv (X.blk s3 H3 scope ce fp) [] σ' H' s' → ∃ x1, HotAt X.A x1 s'.heap := fun {σ' H' s'} I' => by
    obtain ⟨p, ⟨hh, v1, e1, c1⟩, hp⟩ := hc
    have P1 := I3.pin p (List.mem_append_left _ hp)
    exact ⟨p.1, hh, p.2, v1, I'.base.keep p.1 p.2 P1.1 P1.2.1 (fun hm => (List.mem_cons.mp (I3.stkSub p.1 hm)).elim P1.2.2.1 P1.2.2.2.1) (fun hm => (f3 p.1 hm).1.2.2.2.2.2 p (List.mem_append_left _ hp) rfl), e1, c1⟩
  have loop : codeAny (model X.prog X.w) X.A (.compLoop (.ListComp elt [⟨tg, iter, ifs, 0⟩] scope pos) 0 (.ref it) (.ref D) ce) (compPost (model X.prog X.w) X.A X.xe use Qf (.ref D) s3.heap.objs.size) s4 := by
    refine compLoop_any (fun n s' => ∃ i H', Inv (X.blk s3 H3 scope ce fp) [] (wipe σ (own.map (·.2))) H' s' ∧ tn i s'.heap ∧ (∀ b ∈ fp, H' b = none) ∧ W i n H') ?_ m0 ⟨0, H3, I4, st4, nfp, w0⟩
    rintro n s5 ⟨i, H5, I5, st5, n5, w5⟩
    rcases turn i n H5 w5 with ⟨stop, qq⟩ | ⟨go, Nx, hNx, step⟩
    · have td := T.done (X.blk s3 H3 scope ce fp) rfl rfl rfl (hotB I5) i [] s5 _ H5 (fun _ _ => False) rfl I5 (stat I5 n5) st5 stop
      refine thnF td fun r s6 ⟨hr, I6⟩ => ?_
      subst hr
      -- back in the def's context
      have I7 : Inv X pins σ H5 s6 := I3.call' (ch := fp) I6.os I6.base I6.hok I6.bare fun b hb => ⟨(f3 b hb).1.2.2.2.1, (f3 b hb).1.2.1, (f3 b hb).1.2.2.2.2.1, (f3 b hb).1.2.2.2.2.2⟩
      have nC : H5 s3.heap.objs.size = none := by
        have z : H5 ce.locals = none := I6.free
        rw [cL] at z
        exact z
      obtain ⟨m, hn, _⟩ := I6.loc
      have hn : s6.heap.Ns ce.locals m := hn
      rw [cL] at hn
      exact hRR D s3.heap.objs.size s6 m H5 I7 qq hn (I3.fpOk (Nat.le_refl _) nC)
    · have ti := T.item (X.blk s3 H3 scope ce fp) rfl rfl rfl (hotB I5) i [] s5 _ H5 (fun _ _ => False) rfl I5 (stat I5 n5) st5 go
      refine thnF ti fun r s6 ⟨u, hr, h6⟩ => ?_
      subst hr
      refine thnF h6 fun _ s7 ⟨x, H7, I7, r7, y7, st7, n7⟩ => ?_
      have I7' := I7.pinned (stat I7 n7) (T.obj _ _ st7)
      refine thnF (pg.run _ s7 _ H7 x u _ I7' r7 (step x H7 y7)) fun _ s8 ⟨σ8, H8, I8, hw8, q8⟩ => ?_
      refine thnF (pt.run _ s8 σ8 H8 _ I8 q8) fun b s9 ⟨H9, I9, q9⟩ => ?_
      -- the turn's end
      have fin : ∀ {s' : Shared} {H' : Hp}, Inv (X.blk s3 H3 scope ce fp) ([] ++ pinsAt fp s7.heap) σ8 H' s' → Nx H' → ∃ m, m < n ∧ ∃ i H', Inv (X.blk s3 H3 scope ce fp) [] (wipe σ (own.map (·.2))) H' s' ∧ tn i s'.heap ∧ (∀ b ∈ fp, H' b = none) ∧ W i m H' := fun {s' H'} I' nx => by
        obtain ⟨m', hm, w'⟩ := hNx H' nx
        have pin' : ∀ b ∈ fp, ∀ o, s7.heap.get? b = some o → s'.heap.get? b = some o ∧ H' b = none := fun b hb o e =>
          let z := I'.pin (b, o) (List.mem_append_right _ (List.mem_append_right _ (mem_pinsAt hb e)))
          ⟨z.1, z.2.1⟩
        have hl : (wipe σ (own.map (·.2))).length = σ8.length := by rw [← hw8, wipe_length]
        refine ⟨m', hm, i + 1, H', (I'.unpinned (pins := [])).weak hl (fun j v e => ?_), T.keep _ _ _ st7 fun b hb o e => (pin' b hb o e).1, fun b hb => ?_, w'⟩
        · rw [← hw8] at e
          exact (wipe_some e).1
        · obtain ⟨o, e, _⟩ := T.obj _ _ st7 b hb
          exact (pin' b hb o e).2
      cases b with
      | false =>
        simp only [Bool.false_eq_true, if_false] at q9 ⊢
        exact fin I9 q9
      | true =>
        simp only [if_true] at q9 ⊢
        refine thnF (pe.run _ s9 σ8 H9 _ I9 q9) fun z s10 ⟨yv, H10, I10, r10, acc, hD10, hz10, nx⟩ => ?_
        exact app_ok (X := X.blk s3 H3 scope ce fp) I10 hD10 hz10 r10 fun s11 I11 => fin I11 nx
  exact codeAny_compStart_list loop (T.self X.A 0 _ _ _ st4 loop)
theorem pe_lcH {elt tg iter : Expr} {ifs : List Expr} {scope : Scope} {own : List (Str × Nat)} {pos : Pos} {wi : TI} {g : TG} {tt : TT} {te : TE} (hc : HotC X) (hN : X.N.Nodup) (hi : PIW X tg iter wi) (ok : BlkOk X.N X.env.scope scope own)
    (hg : ∀ (s : Shared) (H : Hp) (C : Addr) (cl : List (Str × Addr)) (fp : List Addr), PG (X.blk s H scope (compEnvC scope cl C X.env) fp) tg g) (ht : ∀ (s : Shared) (H : Hp) (C : Addr) (cl : List (Str × Addr)) (fp : List Addr), PTs (X.blk s H scope (compEnvC scope cl C X.env) fp) ifs tt)
    (he : ∀ (s : Shared) (H : Hp) (C : Addr) (cl : List (Str × Addr)) (fp : List Addr), PE (X.blk s H scope (compEnvC scope cl C X.env) fp) elt te) (hs : ∀ x, foldedSetIterable iter X.env x = pure x := by intro _; rfl) :
    PE X (.ListComp elt [⟨tg, iter, ifs, 0⟩] scope pos) (tLc wi g tt te (own.map (·.2))) := by
  refine ⟨fun pins s σ H Q I h => ?_⟩
  rw [eval_ListComp]
  refine lc_coreH hc hN I hi ok hg ht he hs h fun D C s' m H' I' q hn f => ⟨m, hn, fun h'' sb => ?_⟩
  obtain ⟨f0, f1, f2, f3, f4, f5⟩ := f
  exact ⟨.ref D, H', I'.turned (t' := s'.toks) (fun b o hb e => (sb.2 b hb).trans e) f0 f1 f3 f4 f5, rfl, q⟩
end
end Mir

set_option Elab.async false
set_option linter.all false
set_option maxRecDepth 100000
set_option maxHeartbeats 4000000
/-! Mir, part L: a lambda handed to a def that tells an exception by a word. -/
namespace Mir
open PySem PySem.Spec PyProof.Rows L2 HotX L2H LamX
/-! ### isinstance of the exception that is handled -/
theorem call_isP {X : Cx} {a D : Addr} {oe : Obj} (C : ExcC X.K D) (hz : Zc (.ref D) none oe) (hf : ∃ vs, oe.data = .fields vs) (hp : (a, oe) ∈ X.pn) : CallR X (.builtin "isinstance") (rIsE X.K D a) := by
  intro pins s σ H xs us Q I r h
  obtain ⟨c, cv, b, rfl, hcv, e, q⟩ := h
  cases r with
  | cons rx rr =>
    cases rr with
    | cons rt rr =>
      cases rr
      cases rx
      have ec := hcv _ rt
      subst ec
      obtain ⟨hget, _⟩ := I.pin (a, oe) (List.mem_append.mpr (.inl hp))
      obtain ⟨vs, hv⟩ := hf
      have J : PySem.W.InstAt s.heap a oe D none := by
        obtain ⟨oc, od, oda, osl⟩ := oe
        obtain ⟨h1, h2⟩ := hz
        dsimp only at h1 h2 hv
        subst h1 h2 hv
        exact ⟨hget, rfl, rfl, trivial⟩
      exact PySem.W.kia_one (PySem.W.handS_kitx_exc C.hg C.hk C.hs C.hd C.ha C.hn C.ht C.hm) I.kIn J e (fun z => nomatch z) fun tk => ⟨.bl b, H, I.kept (t' := tk) fun _ _ z => z, rfl, q⟩
def eIsE (i : Nat) (a : Addr) (b : Bool) : ED := fun τ s => match τ[i]? with
  | some (some (.exc a')) => if a' = a then .ok (.bl b) s else .no
  | _ => .no
section
variable {c : Ctx}
theorem de_isE {i : Nat} {a D : Addr} {oe : Obj} {en x : Str} {v : V} {cv : Value} {b : Bool} {p p1 p2 pos : Pos} (C : ExcC c.X.K D) (hz : Zc (.ref D) none oe) (hf : ∃ vs, oe.data = .fields vs) (hp : (a, oe) ∈ c.X.pn) (hm : c.X.mg "isinstance" = none)
    (pc : PE c.X (.Name x p2) (tC v)) (hv : ∀ u, RelV v u → u = cv) (hk : PySem.W.kitOne c.X.K (.ref D) cv = some b) (hO : c.O i = false := by rfl) (hN : c.X.N[i]? = some en := by rfl) (hvis : Vis c.X.env.scope en := by first | exact Or.inl rfl | exact Or.inr (Or.inl rfl) | exact Or.inr (Or.inr rfl))
    (hg : Gl c.X "isinstance" := by rfl) (hd : (en == ("__debug__" : Str)) = false := by decide) (hcd : (en == ("__classdict__" : Str)) = false := by decide)
    (hs : starEach [.Name en p1, .Name x p2] c.X.env = (false, eval (.Name en p1) c.X.env) :: starEach [.Name x p2] c.X.env := by rfl) (hs2 : starEach [.Name x p2] c.X.env = (false, eval (.Name x p2) c.X.env) :: starEach [] c.X.env := by rfl) (hpl : (backTo pos (starEach [.Name x p2] c.X.env)).any (·.1) = false := by rfl) :
    DE .o c (.Call (.Name "isinstance" p) [.Name en p1, .Name x p2] [] pos) (eIsE i a b) := by
  refine de_mk (pe_callB (call_isP C hz hf hp) hg hm (by decide +kernel) (pa_cons (pe_var (i := i) hN hvis hd hcd) (pa_cons pc pa_nil hs2) hs) (by decide) (by decide) hs hpl) fun g H s σ τ Q o h => ?_
  unfold eIsE at h
  split at h
  · rename_i a' z
    by_cases q : a' = a
    · rw [if_pos q] at h
      subst q
      obtain ⟨u, h1, h2⟩ := o.sl.at_ i _ z
      rw [hO, if_neg Bool.false_ne_true] at h2
      cases h2
      exact ⟨_, h1, v, cv, b, rfl, hv, hk, Pg.now h o.wf _ (.of (.bl b))⟩
    · rw [if_neg q] at h
      exact h.elim
  · exact h.elim
/-! ### sum and comprehensions there -/
def sumD : List D → Option D
  | [.lst ds] => (intsOf ds).map fun ns => .int ns.sum
  | _ => none
theorem cd_sum' (hc : CallR c.X (.builtin "sum") (rSum c.X.K)) : CallD c (.builtin "sum") sumD := by
  refine ⟨_, hc, fun g H s vs ds d Q w r e k => ?_⟩
  unfold sumD at e
  split at e
  · rename_i ds
    cases q : intsOf ds with
    | none => rw [q] at e; cases e
    | some ns =>
      rw [q] at e
      cases e
      obtain ⟨v, rfl, r1⟩ := r.one
      obtain ⟨a, xs, rfl, h1, h2⟩ := r1.lst w
      rw [h2.intsOf q] at h1
      exact ⟨a, ns, rfl, SqL.of h1, k.here w (.int _)⟩
  · cases e
theorem cd_sumH (hc : HotC c.X) : CallD c (.builtin "sum") sumD := cd_sum' (cr_sumH hc)
theorem cd_sum (hc : c.X.calm = true := by rfl) : CallD c (.builtin "sum") sumD := cd_sum' (cr_sum hc)
theorem dlc_H {elt tg l : Expr} {ifs : List Expr} {scope : Scope} {pos : Pos} {fl : ED} {ws : List Nat} {fg : D → Ev → Option Ev} {ft : TD} {fe : ED} (own : List (Str × Nat)) (hN : c.X.N.Nodup) (hc : HotC c.X) (hi : DE .b c l fl)
    (hg : ∀ s H C cl fp, DG (blkC c W0 (fun _ _ => False) s H scope C cl fp) tg ws fg)
    (ht : ∀ s H C cl fp, PTs (blkC c W0 (fun _ _ => False) s H scope C cl fp).X ifs (tTK c.X.K c.T W0 c.O ft))
    (he : ∀ s H C cl fp, DE .z (blkC c W0 (fun _ _ => False) s H scope C cl fp) elt fe)
    (ok : L2.blkC c.X.N c.X.env.scope scope own = true := by kernel_rfl) (hws : (ws.all fun i => (own.map (·.2)).contains i && !c.O i) = true := by rfl) (hs : ∀ x, foldedSetIterable l c.X.env x = pure x := by intro _; rfl) :
    DE .o c (.ListComp elt [⟨tg, l, ifs, 0⟩] scope pos) (eLc0 (iLst fl) fg ft fe (own.map (·.2))) := by
  have hws' : ∀ i ∈ ws, i ∈ own.map (·.2) ∧ c.O i = false := fun i hi => by
    have := Bool.and_eq_true_iff.mp (List.all_eq_true.mp hws i hi)
    exact ⟨List.contains_iff_mem.mp this.1, by simpa using this.2⟩
  have bo := blkOk_by ok
  have pl := hi.can
  refine ⟨_, pe_lcH hc hN (pi_listW pl) bo (fun s H C cl fp => (hg s H C cl fp).can) (fun s H C cl fp => ht s H C cl fp) (fun s H C cl fp => (he s H C cl fp).can) hs, evs_lc0 (iter := l) (tg := tg) (fun g H s σ τ R o h => ?_) hws'⟩
  refine ⟨g, s, τ, o.wf, o.sl, pgK.mp (Pg.seq h fun d s1 g1 H1 _ e1 w1 h1 v rv => ?_)⟩
  cases d with
  | lst ds =>
    obtain ⟨a, xs, rfl, h2, rs⟩ := rv.lst w1
    have ne : ∀ n, g1.r n ≠ some a := fun n q => by
      rcases rv with z | z
      · cases z with
        | lst hg _ => obtain ⟨_, _, z⟩ := w1.out n a q _ hg; cases z
      · cases z with
        | lst _ hr _ _ => exact hr n q
    refine ⟨a, rfl, ⟨xs, SqL.of h2⟩, Pg.now h1 w1 _ ⟨fun i d hd g2 H2 s2 e2 w2 => ?_, fun g2 H2 s2 e2 w2 => ?_⟩⟩
    · have hq : SqL c.X.K H2 a xs := SqL.of (e2.keep a _ h2 ne (fun ps => by simp))
      obtain ⟨x, hx, rx⟩ := rs.get hd
      exact ⟨⟨xs, x, hq, hx⟩, fun y H3 hy => ⟨g2, by rw [hy.1]; exact Ext.refl _ _, by rw [hy.1]; exact w2, by
        have z := hy.2 xs hq
        rw [hx] at z; cases z
        exact rx.mono e2.le⟩⟩
    · exact ⟨xs, SqL.of (e2.keep a _ h2 ne (fun ps => by simp)), Nat.le_of_eq rs.length⟩
  | _ => exact h1.elim
end
/-! ### a def's body, from its start -/
theorem SOk.start {c : Ctx} {N : List Str} {np : Nat} {g : Gh} {H : Hp} {st : Sto} {vs : List V} {ds : List D} (w1 : WF c.X.K c.T g H st) (r : Reps c.X.K g vs ds) (hl : ds.length = np) (hO : ∀ i, i < np → c.O i = false) :
    SOk c g H g H st (L2.start N vs) (ds.map some ++ List.replicate (N.length - np) none) := by
  have lv := r.length
  have atS : ∀ i d, (ds.map some ++ List.replicate (N.length - np) none)[i]? = some (some d) → i < np ∧ ∃ v, (L2.start N vs)[i]? = some (some v) ∧ Rep c.X.K g v d := fun i d e => by
    by_cases hi : i < ds.length
    · rw [List.getElem?_append_left (by rw [List.length_map]; exact hi), List.getElem?_map] at e
      cases z : ds[i]? with
      | none => rw [z] at e; cases e
      | some d' =>
        rw [z] at e
        cases e
        obtain ⟨v, h1, h2⟩ := r.get z
        refine ⟨by omega, v, ?_, h2⟩
        unfold L2.start
        rw [List.getElem?_append_left (by rw [List.length_map]; omega), List.getElem?_map, h1]
        rfl
    · rw [List.getElem?_append_right (by rw [List.length_map]; omega)] at e
      rw [List.getElem?_replicate] at e
      split at e <;> cases e
  refine ⟨⟨w1, ⟨?_, fun i d e => ?_, fun i j p hi hj hij e1 e2 => ?_⟩⟩, Ext.refl _ _, fun i p d hi e1 e2 => ?_⟩
  · unfold L2.start
    rw [List.length_append, List.length_append, List.length_map, List.length_map, List.length_replicate, List.length_replicate, lv, hl]
  · obtain ⟨hi, v, h1, h2⟩ := atS i d e
    refine ⟨v, h1, ?_⟩
    rw [hO i hi, if_neg Bool.false_ne_true]
    exact h2
  · by_cases hlt : i < np
    · rw [hO i hlt] at hi; cases hi
    · unfold L2.start at e1
      rw [List.getElem?_append_right (by rw [List.length_map]; omega), List.getElem?_replicate] at e1
      split at e1 <;> cases e1
  · obtain ⟨hlt, _⟩ := atS i d e1
    rw [hO i hlt] at hi; cases hi
/-- the end of a body that raises nothing -/
theorem body_end {c : Ctx} {N : List Str} {np : Nat} {g : Gh} {H : Hp} {st : Sto} {ds : List D} {b : SD} {Q : VK} {E : XK} (h : match fnM np N.length b ds st with
    | .ok d s' => ∀ v g' H', Ext g H g' H' → WF c.X.K c.T g' H' s' → Rep c.X.K g' v d → Q v H'
    | .exc cl s' => ∀ g' H', Ext g H g' H' → WF c.X.K c.T g' H' s' → E (clsV c.X.K cl) none H'
    | .no => False) (hE : ∀ cl d H', E cl d H' → c.W cl d H') : ds.length = np ∧ Ps c g H g { nx := fun _ H' => Q .non H', rt := Q } (b (ds.map some ++ List.replicate (N.length - np) none) st) := by
  unfold fnM at h
  by_cases hl : ds.length = np
  · rw [if_pos hl] at h
    refine ⟨hl, ?_⟩
    cases z : b (ds.map some ++ List.replicate (N.length - np) none) st with
    | ok fl s1 =>
      rw [z] at h
      cases fl with
      | nx τ1 => exact fun g' H' σ' l' o' => h .non g' H' o'.ext o'.ok.wf .non
      | bk τ1 => exact h.elim
      | ct τ1 => exact h.elim
      | rt d => exact fun g' H' v e' w' r' => h v g' H' e' w' r'
    | exc cl s1 => rw [z] at h; exact fun g' H' e' w' => hE _ _ _ (h g' H' e' w')
    | no => rw [z] at h; exact h
  · rw [if_neg hl] at h; exact h.elim
/-! ### the def that tells the word, called while p's exception is handled -/
structure Hot (P : Program) (w : World) (K : PySem.W.Frag) (mg : Str → Option Value) (base : Heap) (T : List (Addr × Str)) (x : Str) (k : Nat) (p : Addr × Obj) (F : FD) : Prop where
  ex : ∃ f fd en, mg x = some (.ref f) ∧ PySem.W.keepIn K (.ref f) = true ∧ Binds K fd [en] [] ∧ ∀ (A : Around) (outer : List Env) (s : Shared) (H : Hp) (args : Args) (us : List Value) (vs : List V) (Q : VK), RoomH k A → Hot1 A p → PinOk outer H s p → Env0 P w K mg base A outer s H → BindsTo s fd args ([en].zip us) → Vals vs us → spOf K T F vs H Q C8.E0 →
    codeAny (model P w) A (.call (.ref f) args) (CR C8.CX0 outer P w H s Q C8.E0) s
abbrev cxW (P : Program) (w : World) (K : PySem.W.Frag) (mg : Str → Option Value) (base : Heap) (T : List (Addr × Str)) (N : List Str) (qual : Str) (scope : Scope) (f : Addr) (cdv : Value) (A : Around) (outer : List Env) (s : Shared) (H : Hp) (p : Addr × Obj) : Ctx :=
  ⟨cxH C8.CX0 P w K mg base N qual scope f cdv A outer s H C8.E0 p, T, W0, noO⟩
theorem hot_mk {P : Program} {w : World} {K : PySem.W.Frag} {mg : Str → Option Value} {base : Heap} {T : List (Addr × Str)} {x qual en : Str} {params : Arguments} {body : List Stmt} {scope : Scope} {f : Addr} {fd : FuncData} {kws : List (Str × V)} {N : List Str} {k : Nat} {b : SD} {p : Addr × Obj} (F : FunD K x qual params body scope [] kws f fd) (S : FnScope N [en] scope) (hm : mg x = some (.ref f)) (hbi : Binds K fd [en] [])
    (hbody : ∀ (cdv : Value) (A : Around) (outer : List Env) (s : Shared) (H : Hp), Hot1 (A.deeper (envOfC qual scope s.heap.objs.size f cdv)) p → RoomH k (A.deeper (envOfC qual scope s.heap.objs.size f cdv)) → DSs (cxW P w K mg base T N qual scope f cdv A outer s H p) body b) : Hot P w K mg base T x (k + 1) p (fnM 1 N.length b) := by
  obtain ⟨oc, od, dV, kV, doc, pm, an, cdv, ct, osl, efd, lk, hcd, _, _⟩ := F.ex
  refine ⟨f, fd, en, hm, F.kp, hbi, fun A outer s H args us vs Q hr hot hpin e0 hb r h => ?_⟩
  subst efd
  obtain ⟨g, st, ds, w1, rs, h⟩ := h
  obtain ⟨hl, h2⟩ := body_end (c := cxW P w K mg base T N qual scope f cdv A outer s H p) (N := N) (np := 1) h fun _ _ _ z => z
  have lv : vs.length = [en].length := by rw [rs.length, hl]; rfl
  have KX : K.In s.heap := e0.mod.kin.keeps fun b o e => (e0.bs b o e).1
  have lim : s.heap.NoLimit := e0.mod.nolimit.keeps fun b o e => (e0.bs b o e).1
  have hkind : ∀ y ∈ [en].zip us, scope.names.lookup y.1 = some .local ∨ (scope.names.lookup y.1 = some .cell ∧ ((cellsFrom (s.heap.objs.size + 1) scope.names []).lookup y.1).isSome = true) := fun ⟨n, v⟩ hy => by
    rcases S.par n (List.of_mem_zip hy).1 with q | q
    · exact .inl q
    · exact .inr ⟨q, PySem.W.cellsFrom_some _ _ _ (.inl q)⟩
  refine codeAny_call_function hr.depth (KX _ _ lk) rfl S.co S.gen rfl (PySem.W.codeRec_of KX hcd) (hb _ _ _ _ ?_)
  refine wpAny_newFunctionEnv_cells S.kind hkind fun env he s1 x => ?_
  subst he
  refine ⟨lim.keeps x.toInCall.keep, codeAny_func ?_⟩
  obtain ⟨t, ht, hq⟩ := hbody cdv A outer s H hot (hr.deeper _)
  have hq := hq g H g H st (L2.start N vs) _ _ (SOk.start (N := N) (np := 1) w1 rs hl fun _ _ => rfl) h2
  have I : Inv (cxH C8.CX0 P w K mg base N qual scope f cdv A outer s H C8.E0 p) [] (L2.start N vs) H s1 := inv_startH S hpin e0 lv r x
  refine wpAny_mono (ht.run [] s1 (L2.start N vs) H _ I hq) (fun fl s' hs => ?_) fun e s' hs => hs
  have fin : ∀ {σ' : L2.St} {H' : Hp} {v : V} {u : Value}, Inv (cxH C8.CX0 P w K mg base N qual scope f cdv A outer s H C8.E0 p) [] σ' H' s' → RelV v u → Q v H' → CE outer P w H s Q u s' :=
    fun {σ' H' v u} J rv q => ⟨v, H', J.os, J.bare, J.base, J.hok, rv, q⟩
  cases fl with
  | ret u =>
    obtain ⟨v, σ', H', J, rv, q⟩ := hs
    exact fin J rv q
  | next =>
    obtain ⟨σ', H', J, q⟩ := hs
    exact fin (v := V.non) (u := Value.none) J rfl q
  | brk =>
    obtain ⟨_, _, _, q⟩ := hs
    exact False.elim q
  | cont =>
    obtain ⟨_, _, _, q⟩ := hs
    exact False.elim q
/-- x(e) in the suite -/
theorem pe_hot {X : Cx} {T : List (Addr × Str)} {x en : Str} {k i : Nat} {p : Addr × Obj} {F : FD} {q p1 pos : Pos} (W : Hot X.prog X.w X.K X.mg X.base T x k p F) (hr : RoomH k X.A) (hot : Hot1 X.A p) (hp : p ∈ X.pn) (hg : Gl X x) (hN : X.N[i]? = some en) (hv : Vis X.env.scope en)
    (hdb : (x == ("__debug__" : Str)) = false := by decide) (hd : (en == ("__debug__" : Str)) = false := by decide) (hcd : (en == ("__classdict__" : Str)) = false := by decide) (he : starEach [.Name en p1] X.env = (false, eval (.Name en p1) X.env) :: starEach [] X.env := by rfl) :
    PE X (.Call (.Name x q) [.Name en p1] [] pos) (fun σ H Q => ∃ v, σ[i]? = some (some v) ∧ spOf X.K T F [v] H Q C8.E0) := by
  refine ⟨fun pins s σ H Q I h => ?_⟩
  obtain ⟨f, fd, en', hm, hk, hb, hrun⟩ := W.ex
  have ha : PA X [.Name en p1] (tCons (tVar i) tNil) := pa_cons (pe_var (i := i) hN hv hd hcd) pa_nil he
  obtain ⟨v, h1, h2⟩ := h
  refine wpAny_Call_Name_kw (ld_glob I hg hm ?_ hdb)
  refine PySem.W.callWith_K (h₀ := X.base) I.ok.mod.kin hk (thn (ha.run pos pins s σ H (fun vs H1 => vs = [v] ∧ H1 = H) I ⟨v, h1, rfl, rfl⟩) fun us s1 ⟨vs, H1, I1, r, q⟩ => ⟨I1.kIn, ?_⟩) he
  obtain ⟨q1, q2⟩ := q
  subst q1
  rw [q2] at I1
  have hl : us.length = [en'].length := by rw [← r.length]; rfl
  have b := hb s1 us I1.kIn (by rw [List.append_nil]; exact hl)
  rw [List.append_nil] at b
  have P1 := I1.pin p (List.mem_append_left _ hp)
  have hpin : PinOk X.stack H s1 p := ⟨P1.1, P1.2.1, fun hm => (List.mem_cons.mp (I1.stkSub p.1 hm)).elim P1.2.2.1 P1.2.2.2.1, P1.2.2.2.2⟩
  refine wpAny_call (codeAny_mono (hrun X.A X.stack s1 H ⟨us, []⟩ us [v] Q hr hot hpin I1.env0 b r h2) fun r s' hq => ?_)
  cases r with
  | error e => exact (show False from hq).elim
  | ok fl =>
    cases fl with
    | ret u => exact I1.after hq
    | next => exact False.elim hq
    | brk => exact False.elim hq
    | cont => exact False.elim hq
end Mir

set_option Elab.async false
set_option linter.all false
set_option maxRecDepth 100000
set_option maxHeartbeats 4000000
/-! Mir, part M: the lambda, with the exception's context known (after the library's own lemmas of lambdas, turned to L2N.CX). -/
namespace Mir
open PySem PySem.Spec PyProof.Rows L2 HotX L2H LamX
section
variable {X : Cx} {pins : List (Addr × Obj)} {σ : L2.St} {H : Hp} {s : Shared}
theorem lam_make3 {T : List (Addr × Str)} {c P : Addr} {params : Arguments} {body : Expr} {scope : Scope} {pos : Pos} {E : Value → Shared → Prop} {Q : Value → Shared → Prop} (I : Inv X pins σ H s) (TB : TabB X.base X.mg c P) (hcode : X.env.code = .ref c)
    (hm : (P, X.env.qual ++ "<lambda>") ∈ T) (hu : ∀ p ∈ T, p.1 = P → p.2 = X.env.qual ++ "<lambda>") (hT : Tabs T H) (hdef : defaultsOf params X.env = ([], [])) (hfree : ∀ y ∈ scope.names, y.2 = .free → ∃ c, X.env.cells.lookup y.1 = some c)
    (h : ∀ (f c' : Addr) (pm ctv : Value) (H1 : Hp) (s' : Shared), Inv X pins σ H1 s' → ExtN H H1 → (∀ b, H b ≠ none → H1 b ≠ none) → Tabs T H1 →
      s'.heap.get? f = some (PySem.W.kla_obj "<lambda>" (X.env.qual ++ "<lambda>") params body scope (cloFrom X.env.cells scope.names []) pm c' ctv) → H1 f = none → f ∉ frs X.stack → H1 c' = some (CodeO c' (X.env.qual ++ "<lambda>")) → Q (.ref f) s') :
    wpAny (model X.prog X.w) X.A (eval (.Lambda params body scope pos) X.env) Q E s := by
  obtain ⟨ps, hP, ht, ha⟩ := hT _ hm
  refine PySem.W.kla_eval hdef ?_
  have bP : s.heap.BuiltinsAt X.mg P := TB.bm.keeps I.bk
  have hP' : s.heap.get? P = some { cls := .none, data := .fields ps } := I.hok P _ hP
  have nofr : ∀ f, s.heap.objs.size ≤ f → f ∉ frs X.stack := fun f hf z => by
    rcases List.mem_cons.mp (I.stkSub _ z) with e | e
    · have h1 := I.lt
      rw [← e] at h1
      exact Nat.lt_irrefl _ (Nat.lt_of_lt_of_le h1 hf)
    · exact I.nofs hf e
  cases hc : codeAmong pos ps.toList with
  | none =>
    refine PySem.W.kla_makeFunction (mg := X.mg) (c := c) (P := P) (ps := ps) (closure_ok hfree) I.ok.glob (I.mod.glob.keeps I.bk) hcode (TB.code.keeps I.bk) hP' ht hc TB.gP bP fun c' ctv h' tk hx hge hlt hrec htb => ?_
    obtain ⟨c2, oc, vs, t, e2, hoc, hd, hv⟩ := hrec
    cases e2
    have hsz : s.heap.objs.size ≤ h'.objs.size := Nat.le_trans hge (Nat.le_of_lt hlt)
    have nC : H c' = none := I.hok.fresh hge
    have I1 := inv_table (t' := tk) (more := #[rawInt pos.line, rawInt pos.col, .ref c']) (h' := h'.push (PySem.W.kla_obj "<lambda>" (X.env.qual ++ "<lambda>") params body scope (cloFrom X.env.cells scope.names []) ((X.mg "__name__").getD .none) c' ctv)) I hP
      (fun b o hb e => Heap.get?_push_of_some _ (hx b o hb e)) (Heap.get?_push_of_some _ htb) hge ⟨oc, vs, t, Heap.get?_push_of_some _ hoc, hd, hv⟩
    have hE : ExtN H (upd (upd H P (.tbl (ps ++ #[rawInt pos.line, rawInt pos.col, .ref c']))) c' (CodeO c' (X.env.qual ++ "<lambda>"))) := fun b o e n => by
      rw [upd_ne (ne_of_none e nC), upd_ne (fun z => n ps (Option.some.inj (e.symm.trans (by rw [z]; exact hP))))]
      exact e
    have eL : (ps ++ #[rawInt pos.line, rawInt pos.col, .ref c']).toList = ps.toList ++ [rawInt pos.line, rawInt pos.col, .ref c'] := by simp
    refine h h'.objs.size c' ((X.mg "__name__").getD .none) ctv _ _ I1 hE (fun b hb => ?_) (fun p hp => ?_) (Heap.get?_push_size _ rfl) ?_ (nofr _ hsz) upd_same
    · by_cases z1 : b = c'
      · rw [z1, upd_same]; simp
      · by_cases z2 : b = P
        · rw [upd_ne z1, z2, upd_same]; simp
        · rw [upd_ne z1, upd_ne z2]; exact hb
    · by_cases hb : p.1 = P
      · rw [hu p hp hb, hb]
        refine ⟨_, by rw [upd_ne (ne_of_none hP nC), upd_same], by rw [eL]; exact PySem.TriplesOk_snoc _ _ _ _ ht, fun p' cv hcv => ?_⟩
        rw [eL] at hcv
        rcases among_app _ ht hcv with z | z
        · obtain ⟨c0, e1, e2⟩ := ha p' cv z
          exact ⟨c0, e1, hE _ _ e2 codeO_ne⟩
        · exact ⟨c', z, upd_same⟩
      · obtain ⟨ps', a1, a2, a3⟩ := hT p hp
        refine ⟨ps', by rw [upd_ne (ne_of_none a1 nC), upd_ne hb]; exact a1, a2, fun p' cv hcv => ?_⟩
        obtain ⟨c0, e1, e2⟩ := a3 p' cv hcv
        exact ⟨c0, e1, hE _ _ e2 codeO_ne⟩
    · have n1 : h'.objs.size ≠ c' := Nat.ne_of_gt hlt
      have n2 : h'.objs.size ≠ P := Nat.ne_of_gt (Nat.lt_of_lt_of_le (Heap.lt_size hP') hsz)
      rw [upd_ne n1, upd_ne n2]
      exact I.hok.fresh hsz
  | some cv =>
    obtain ⟨c', e, hco⟩ := ha pos cv hc
    subst e
    refine PySem.W.kla_makeFunctionHit (mg := X.mg) (c := c) (P := P) (ps := ps) (closure_ok hfree) I.ok.glob (I.mod.glob.keeps I.bk) hcode (TB.code.keeps I.bk) hP' ht hc bP fun ctv h' tk hx hsz => ?_
    have I1 : Inv X pins σ H { s with heap := h'.push (PySem.W.kla_obj "<lambda>" (X.env.qual ++ "<lambda>") params body scope (cloFrom X.env.cells scope.names []) ((X.mg "__name__").getD .none) c' ctv), toks := tk } := I.kept fun b o e => Heap.get?_push_of_some _ (hx b o e)
    exact h h'.objs.size c' ((X.mg "__name__").getD .none) ctv H _ I1 (ExtN.refl H) (fun _ z => z) hT (Heap.get?_push_size _ rfl) (I.hok.fresh hsz) (nofr _ hsz) hco
end
theorem inv_wish {Y : Cx} {N : Value → Shared → Prop} {pins : List (Addr × Obj)} {σ : L2.St} {H : Hp} {s : Shared} (I : Inv Y pins σ H s) : Inv (Y.wish N) pins σ H s := by
  cases Y
  exact Inv.unwish (E := _) I
/-- the context of the lambda's body -/
def lamCxN (X : Cx) (A : Around) (outer : List Env) (s : Shared) (H : Hp) (E : XK) (scope : Scope) (f c' : Addr) : Cx := (lamCx X A outer s H E scope f c').wish fun e s' => wpAny (model X.prog X.w) (A.deeper (lamEnv X scope s.heap.objs.size f c')) (leaving (lamEnv X scope s.heap.objs.size f c') e) (fun _ s'' => L2N.CX X.prog X.w outer H s E e s'') (fun e' s'' => L2N.CX X.prog X.w outer H s E e' s'') s'
section
variable {X : Cx} {pins : List (Addr × Obj)} {σ : L2.St} {H HZ : Hp} {s s1 : Shared}
theorem pe_actN {CXg : CXT} {Eg : XK} {Ng : List Str} {qg : Str} {sg : Scope} {g f c' : Addr} {cdg pm ctv : Value} {params : Arguments} {body : Expr} {scope : Scope} {k i : Nat} {a : Str} {pn : List (Addr × Obj)} {xe : Value → Shared → Prop} {W : WX} {E : XK} {tb : TE} {p1 p2 : Pos}
    (I : Inv X pins σ H s) (L : LamS X.env.scope scope) (hf : s.heap.get? f = some (PySem.W.kla_obj "<lambda>" (X.env.qual ++ "<lambda>") params body scope (cloFrom X.env.cells scope.names []) pm c' ctv)) (hfn : H f = none) (hfr : f ∉ frs X.stack)
    (hbind : bindArgs (PySem.W.kla_fn "<lambda>" (X.env.qual ++ "<lambda>") params body scope (cloFrom X.env.cells scope.names []) pm (.ref c') ctv) ⟨[], []⟩ = pure [])
    (tk : L2N.Takes ((cxOf CXg X.prog X.w X.K X.mg X.base Ng qg sg g cdg X.A X.stack s H Eg).tr pn xe) W) (hW : ∀ cls d σ' H', E cls d H' → W cls d σ' H') (hr : Room (k + 1) (X.A.deeper (envOfC qg sg s.heap.objs.size g cdg)))
    (hbody : ∀ (A : Around) (outer : List Env) (s : Shared) (H : Hp), Room k (A.deeper (lamEnv X scope s.heap.objs.size f c')) → PE (lamCxN X A outer s H E scope f c') body tb)
    (hN : Ng[i]? = some a) (hv : Vis sg a) (hd : (a == ("__debug__" : Str)) = false := by decide) (hcd : (a == ("__classdict__" : Str)) = false := by decide) :
    PE ((cxOf CXg X.prog X.w X.K X.mg X.base Ng qg sg g cdg X.A X.stack s H Eg).tr pn xe) (.Call (.Name a p1) [] [] p2)
      (fun σZ HZ Q => σZ[i]? = some (some (.ref f)) ∧ HZ c' = some (CodeO c' (X.env.qual ++ "<lambda>")) ∧ tb σ HZ Q) := by
  refine ⟨fun pinsZ sZ σZ HZ Q IZ h => ?_⟩
  obtain ⟨hs, hc, ht⟩ := h
  refine wpAny_Call_Name_kw (thn ((pe_var (pos := p1) (i := i) hN hv hd hcd).run pinsZ sZ σZ HZ (fun v H1 => v = .ref f ∧ H1 = HZ) IZ ⟨.ref f, hs, rfl, rfl⟩) fun u s1 ⟨v, H1, I1, r1, q1⟩ => ?_)
  obtain ⟨ev, eH⟩ := q1
  subst ev
  rw [eH] at I1
  obtain rfl : u = Value.ref f := r1
  have of1 : s1.heap.get? f = some (PySem.W.kla_obj "<lambda>" (X.env.qual ++ "<lambda>") params body scope (cloFrom X.env.cells scope.names []) pm c' ctv) := I1.base.keep f _ hf hfn hfr (fun z => nomatch (show f ∈ ([] : List Addr) from z))
  refine PySem.W.callWith_F0 ⟨_, _, _, _, of1⟩ ?_
  have un : Un (frs X.stack) [] H HZ s.heap s1.heap := I1.base
  obtain ⟨⟨oc, vs, t, hoc, hdc, hvc⟩, _, _⟩ := I1.hok c' _ hc
  have rc : codeAny (model X.prog X.w) (X.A.deeper (envOfC qg sg s.heap.objs.size g cdg)) (.call (.ref f) ⟨[], []⟩) (CR (L2N.CX X.prog X.w) (envOfC qg sg s.heap.objs.size g cdg :: X.stack) X.prog X.w HZ s1 Q E) s1 := by
    refine PySem.W.kla_callFunE hr.depth of1 rfl L.co L.gen rfl ⟨c', oc, vs, t, rfl, hoc, hdc, hvc⟩ ?_
    rw [hbind]
    refine wpAny_pure (wpAny_newFunctionEnv (fun y hy => (L.own y hy).2) (fun y hy => absurd hy (by simp)) (fun h₁ hns hsb => ⟨I1.nolimit.fresh _ hsb, ?_⟩) L.kind)
    show codeAny _ _ (.expr body (lamEnv X scope s1.heap.objs.size f c')) _ _
    have kp : ∀ b o, s1.heap.get? b = some o → h₁.get? b = some o := fun b o e => hsb.extBut b o (Nat.ne_of_lt (Heap.lt_size e)) (Heap.get?_push_of_some _ e)
    have J : Inv (lamCxN X (X.A.deeper (envOfC qg sg s.heap.objs.size g cdg)) (envOfC qg sg s.heap.objs.size g cdg :: X.stack) s1 HZ E scope f c') [] σ HZ { s1 with heap := h₁, toks := s1.toks + ([] : List (Str × Value)).length } :=
      inv_wish (lam_start2 I L I1.env0 hr.hd un hns kp)
    refine PySem.W.kla_codeExpr (wpAny_mono ((hbody _ _ s1 HZ (hr.deeper _)).run [] _ _ HZ Q J ht) (fun v s' hq => ?_) fun e s' hq => hq)
    obtain ⟨w', H', J', rv, q⟩ := hq
    exact ⟨w', H', J'.os, J'.bare, J'.base, J'.hok, rv, q⟩
  have hx : Passes (L2N.CX X.prog X.w) ((cxOf CXg X.prog X.w X.K X.mg X.base Ng qg sg g cdg X.A X.stack s H Eg).tr pn xe) E := L2N.passes_call tk hW
  refine wpAny_call (codeAny_mono rc fun r s' hq => ?_)
  cases r with
  | error e => exact hx pinsZ σZ HZ s1 e s' I1 hq
  | ok fl =>
    cases fl with
    | ret u => exact I1.after hq
    | next => exact False.elim hq
    | brk => exact False.elim hq
    | cont => exact False.elim hq
end
def GivesToN (X : Cx) (Ng : List Str) (x : Str) (sg : Scope) (g : Addr) (cdg : Value) (bg : List Stmt) (a : Str) (q : Str) (TT : (XK → Hp → VK → Prop) → Hp → VK → Prop) : Prop :=
  ∀ (f c' : Addr) (s : Shared) (H : Hp) (Q : VK) (tl : XK → Hp → VK → Prop),
    (∀ (W : WX) (pn : List (Addr × Obj)) (xe : Value → Shared → Prop) (E : XK) (p1 p2 : Pos), L2N.Takes ((cxOf C8.CX0 X.prog X.w X.K X.mg X.base Ng x sg g cdg X.A X.stack s H C8.E0).tr pn xe) W → (∀ cls d σ' H', E cls d H' → W cls d σ' H') →
      PE ((cxOf C8.CX0 X.prog X.w X.K X.mg X.base Ng x sg g cdg X.A X.stack s H C8.E0).tr pn xe) (.Call (.Name a p1) [] [] p2) (fun σZ HZ Q => σZ[0]? = some (some (.ref f)) ∧ HZ c' = some (CodeO c' q) ∧ tl E HZ Q)) →
    H c' = some (CodeO c' q) → TT tl H Q →
    ∃ t, PSs (cxOf C8.CX0 X.prog X.w X.K X.mg X.base Ng x sg g cdg X.A X.stack s H C8.E0).nox bg t ∧ t { nx := fun _ H' => Q .non H', rt := Q } (L2.start Ng [.ref f]) H
def tLamN (T : List (Addr × Str)) (TT : (XK → Hp → VK → Prop) → Hp → VK → Prop) (t : XK → TE) : TE := fun σ H Q => Tabs T H ∧ ∀ H1, ExtN H H1 → (∀ b, H b ≠ none → H1 b ≠ none) → Tabs T H1 → TT (fun E H' Q' => t E σ H' Q') H1 Q
section
variable {X : Cx}
theorem pe_lamcallN {T : List (Addr × Str)} {TT : (XK → Hp → VK → Prop) → Hp → VK → Prop} {x a : Str} {g c P : Addr} {k : Nat} {pg : Arguments} {bg : List Stmt} {sg : Scope} {dV kV doc pm cdv ct oc : Value} {an od : Option Addr} {osl : Array (Option Value)} {Ng : List Str}
    {params : Arguments} {body : Expr} {scope : Scope} {t : XK → TE} {p lpos pos : Pos} (hg : Gl X x) (hm : X.mg x = some (.ref g)) (hk : PySem.W.keepIn X.K (.ref g) = true)
    (lk : X.K.lookup g = some ⟨oc, od, .func (PySem.W.fnOf x x pg bg sg dV kV doc pm an cdv ct), osl⟩) (hcg : PySem.W.codeIn X.K cdv x = true) (hb : L2.Binds X.K (PySem.W.fnOf x x pg bg sg dV kV doc pm an cdv ct) [a] []) (Sg : FnScope Ng [a] sg) (hNg : Ng[0]? = some a) (hva : Vis sg a)
    (hG : GivesToN X Ng x sg g cdv bg a (X.env.qual ++ "<lambda>") TT)
    (TB : TabB X.base X.mg c P) (hcode : X.env.code = .ref c) (hmT : (P, X.env.qual ++ "<lambda>") ∈ T) (hu : ∀ p ∈ T, p.1 = P → p.2 = X.env.qual ++ "<lambda>") (hr : Room (k + 2) X.A) (L : LamS X.env.scope scope) (hdef : defaultsOf params X.env = ([], []))
    (hbind : ∀ (q : Str) (cl : List (Str × Addr)) (pm cv ctv : Value), bindArgs (PySem.W.kla_fn "<lambda>" q params body scope cl pm cv ctv) ⟨[], []⟩ = pure [])
    (hbody : ∀ (A : Around) (outer : List Env) (s : Shared) (H : Hp) (E : XK) (f c' : Addr), Room k (A.deeper (lamEnv X scope s.heap.objs.size f c')) → PE (lamCxN X A outer s H E scope f c') body (t E))
    (hdb : (x == ("__debug__" : Str)) = false := by decide) (hd : (a == ("__debug__" : Str)) = false := by decide) (hcd : (a == ("__classdict__" : Str)) = false := by decide) :
    PE X (.Call (.Name x p) [.Lambda params body scope lpos] [] pos) (tLamN T TT t) := by
  refine ⟨fun pins s σ H Q I h => ?_⟩
  obtain ⟨hT, h⟩ := h
  refine wpAny_Call_Name_kw (ld_glob I hg hm ?_ hdb)
  refine PySem.W.callWith_K (h₀ := X.base) I.ok.mod.kin hk ?_ (by rfl) (by rfl)
  show wpAny _ _ (spliced ((false, eval (.Lambda params body scope lpos) X.env) :: backTo pos (starEach [] X.env))) _ _ s
  refine Calls.spliced_cons (lam_make3 I TB hcode hmT hu hT hdef (L.has I.ok) fun f c' pm' ctv H1 s' I1 eN dN T1 hf hfn hfr hco => ?_)
  refine Calls.spliced_nil ⟨I1.kIn, ?_⟩
  have rc : codeAny (model X.prog X.w) X.A (.call (.ref g) ⟨[.ref f], []⟩) (CR C8.CX0 X.stack X.prog X.w H1 s' Q C8.E0) s' := by
    refine run_ofS (N := Ng) (ps := [a]) (us := [.ref f]) (vs := [.ref f]) lk hcg Sg hr I1.env0 (hb s' [.ref f] I1.kIn rfl) (.cons rfl .nil) rfl fun hr' => ?_
    obtain ⟨t', ht', hq'⟩ := hG f c' s' H1 Q (fun E H' Q' => t E σ H' Q') (fun W pn xe E p1 p2 tk hW => pe_actN (i := 0) I1 L hf hfn hfr (hbind _ _ _ _ _) tk hW hr' (fun A outer s H hr2 => hbody A outer s H E f c' hr2) hNg hva hd hcd) hco (h H1 eN dN T1)
    exact ⟨t', ht'.nox, hq'⟩
  refine wpAny_call (codeAny_mono rc fun r s2 hq => ?_)
  cases r with
  | error e => exact (show False from hq).elim
  | ok fl =>
    cases fl with
    | ret u => exact I1.after hq
    | next => exact False.elim hq
    | brk => exact False.elim hq
    | cont => exact False.elim hq
end
end Mir

set_option Elab.async false
set_option linter.all false
set_option maxRecDepth 100000
set_option maxHeartbeats 4000000
/-! Mir, part N: told. -/
namespace Mir
open PySem PySem.Spec PyProof.Rows L2 HotX L2H LamX
def wordD (cl : Str) : D := .tup [.str "refused", .str cl]
/-- what is wished of an exception out of the lambda: the word is told -/
def EW (K : PySem.W.Frag) (T : List (Addr × Str)) (errs : List Str) (Q : VK) : XK := fun cls d H' => ∃ cl, cl ∈ errs ∧ cls = clsV K cl ∧ d = none ∧ ∃ g' st', WF K T g' H' st' ∧ ∀ v g'' H'', Ext g' H' g'' H'' → WF K T g'' H'' st' → Rep K g'' v (wordD cl) → Q v H''
def TTo (K : PySem.W.Frag) (T : List (Addr × Str)) (errs : List Str) : (XK → Hp → VK → Prop) → Hp → VK → Prop := fun tl H Q => tl (EW K T errs Q) H Q
structure Told (P : Program) (w : World) (K : PySem.W.Frag) (mg : Str → Option Value) (base : Heap) (T : List (Addr × Str)) (errs : List Str) (x : Str) (k : Nat) : Prop where
  ex : ∃ (g : Addr) (pg : Arguments) (bg : List Stmt) (sg : Scope) (Ng : List Str) (a : Str) (dV kV doc pm cdv ct oc : Value) (an od : Option Addr) (osl : Array (Option Value)),
    mg x = some (.ref g) ∧ PySem.W.keepIn K (.ref g) = true ∧ K.lookup g = some ⟨oc, od, .func (PySem.W.fnOf x x pg bg sg dV kV doc pm an cdv ct), osl⟩ ∧ PySem.W.codeIn K cdv x = true ∧ L2.Binds K (PySem.W.fnOf x x pg bg sg dV kV doc pm an cdv ct) [a] [] ∧ FnScope Ng [a] sg ∧ Ng[0]? = some a ∧ Vis sg a ∧
    (a == ("__debug__" : Str)) = false ∧ (a == ("__classdict__" : Str)) = false ∧ ∀ X : Cx, X.prog = P → X.w = w → X.K = K → X.mg = mg → X.base = base → Room (k + 1) X.A → ∀ q, GivesToN X Ng x sg g cdv bg a q (TTo K T errs)
theorem takes0N {X : Cx} : L2N.Takes X (fun _ _ _ _ => False) := fun _ _ x => by
  obtain ⟨_, _, _, _, _, _, _, _, _, _, _, _, _, _, _, _, z⟩ := x
  exact z.elim
theorem told_gives {X : Cx} {T : List (Addr × Str)} {errs : List Str} {Ng : List Str} {x a e n y q : Str} {sg : Scope} {g : Addr} {cdg : Value} {k : Nat} {p1 p2 p3 p4 p5 p6 p7 p8 p9 p10 : Pos} {Fw : Addr → Str → FD} (hr : Room (k + 1) X.A) (hN : Ng.Nodup) (hn : Ng[1]? = some n) (hln : sg.names.lookup n = some .local)
    (hge : sg.names.lookup e = some .globalImplicit) (hme : X.mg e = some (.ref (He.ga X.K e))) (hde : (e == ("__debug__" : Str)) = false) (h0 : ∀ f : Addr, (L2.start Ng [V.ref f])[0]? = some (some (V.ref f))) 
    (hgy : sg.names.lookup y = some .globalImplicit) (hdy : (y == ("__debug__" : Str)) = false) (hd : (n == ("__debug__" : Str)) = false) (hcd : (n == ("__classdict__" : Str)) = false)
    (hexm : ∀ cl ∈ errs, PySem.W.exmOne X.K (clsV X.K cl) (.ref (He.ga X.K e)) = some true)
    (hw : ∀ cl ∈ errs, ∀ (b : Addr) (oe : Obj), L2N.Zn (clsV X.K cl) none oe → (∃ vs, oe.data = .fields vs) → Hot X.prog X.w X.K X.mg X.base T y k (b, oe) (Fw b cl))
    (hv : ∀ cl ∈ errs, ∀ b st, Fw b cl [.exc b] st = .ok (wordD cl) st) :
    GivesToN X Ng x sg g cdg [.Try [.Return (some (.Call (.Name a p1) [] [] p2)) p3] [.ExceptHandler (some (.Name e p4)) (some n) [.Return (some (.Call (.Name y p9) [.Name n p10] [] p5)) p6] p7] [] [] p8] a q (TTo X.K T errs) := by
  intro f c' s H Q tl act hc h
  have hgl : Gl (cxOf C8.CX0 X.prog X.w X.K X.mg X.base Ng x sg g cdg X.A X.stack s H C8.E0).nox e := hge
  refine ⟨_, pss_one (L2N.ps_try_as (X := (cxOf C8.CX0 X.prog X.w X.K X.mg X.base Ng x sg g cdg X.A X.stack s H C8.E0).nox) (c := .ref (He.ga X.K e)) (i := 1) (Wout := fun _ _ _ _ => False)
      (tb := fun W D σ H => ∃ Ech : XK, (∀ cls d σ' H', Ech cls d H' → W cls d σ' H') ∧ σ[0]? = some (some (.ref f)) ∧ H c' = some (CodeO c' q) ∧ tl Ech H D.rt)
      (ts := fun b cls d D σ H => ∃ cl, cl ∈ errs ∧ cls = clsV X.K cl ∧ d = none ∧ (1 < σ.length → ∃ v, σ[1]? = some (some v) ∧ spOf X.K T (Fw b cl) [v] H D.rt C8.E0))
      rfl rfl hN hn hln ⟨hgl, hde, .inl hme⟩ takes0N (fun W pn xe tk _ => ?_) (fun b oe cls d pn hz hf => ?_)), ?_⟩
  · refine ⟨fun pins s' σ H' D I h' => ?_⟩
    obtain ⟨Ech, hW, h1, h2, h3⟩ := h'
    have hp := act W pn xe Ech p1 p2 tk hW
    have hq := pss_one (ps_ret (pos := p3) hp)
    exact hq.run pins s' σ H' D I ⟨h1, h2, h3⟩
  · refine ⟨fun pins s' σ H' D I h' => ?_⟩
    obtain ⟨cl, hcl, rfl, rfl, hh⟩ := h'
    have W := hw cl hcl b oe hz hf
    obtain ⟨vs, hvs⟩ := hf
    have hot : Hot1 ((cxOf C8.CX0 X.prog X.w X.K X.mg X.base Ng x sg g cdg X.A X.stack s H C8.E0).nox.suite b ((b, oe) :: pn)).A (b, oe) := ⟨rfl, vs, hvs, hz.2.2 vs hvs⟩
    have hr2 := hr.deeper (envOfC x sg s.heap.objs.size g cdg)
    have hq := pss_one (ps_ret (pos := p6) (pe_hot (X := (cxOf C8.CX0 X.prog X.w X.K X.mg X.base Ng x sg g cdg X.A X.stack s H C8.E0).nox.suite b ((b, oe) :: pn)) (T := T) (i := 1) (q := p9) (p1 := p10) (pos := p5) W ⟨hr2.dp, hr2.un⟩ hot List.mem_cons_self hgy hn (.inl hln) hdy hd hcd rfl))
    have l1 : 1 < Ng.length := (List.getElem?_eq_some_iff.mp hn).1
    have l2 : σ.length = Ng.length := I.len
    exact hq.run pins s' σ H' D I (hh (by omega))
  · refine ⟨EW X.K T errs Q, fun cls d σ' H' ⟨cl, hcl, e1, e2, g', st', w', hk⟩ => ⟨true, ?_, fun _ b _ => ⟨cl, hcl, e1, e2, fun hl => ⟨.ref b, ?_, g', st', [.exc b], w',   .cons .exc .nil, ?_⟩⟩, fun z => Bool.noConfusion z⟩, h0 f, hc, h⟩
    · rw [e1]; exact hexm cl hcl
    · exact List.getElem?_set_self (by rw [List.length_set] at hl; exact hl)
    · rw [hv cl hcl b st']
      exact hk
theorem told_mk {P : Program} {w : World} {K : PySem.W.Frag} {mg : Str → Option Value} {base : Heap} {T : List (Addr × Str)} {errs : List Str} {x a e n y : Str} {pg : Arguments} {sg : Scope} {g : Addr} {fd : FuncData} {k : Nat} {p1 p2 p3 p4 p5 p6 p7 p8 p9 p10 : Pos} {Fw : Addr → Str → FD}
    (F : FunD K x x pg [.Try [.Return (some (.Call (.Name a p1) [] [] p2)) p3] [.ExceptHandler (some (.Name e p4)) (some n) [.Return (some (.Call (.Name y p9) [.Name n p10] [] p5)) p6] p7] [] [] p8] sg [] [] g fd) (hm : mg x = some (.ref g)) (hb : Binds K fd [a] []) (S : FnScope [a, n] [a] sg) (hva : Vis sg a) (hln : sg.names.lookup n = some .local)
    (hge : sg.names.lookup e = some .globalImplicit) (hme : mg e = some (.ref (He.ga K e))) (hgy : sg.names.lookup y = some .globalImplicit)
    (hexm : ∀ cl ∈ errs, PySem.W.exmOne K (clsV K cl) (.ref (He.ga K e)) = some true)
    (hw : ∀ cl ∈ errs, ∀ (b : Addr) (oe : Obj), L2N.Zn (clsV K cl) none oe → (∃ vs, oe.data = .fields vs) → Hot P w K mg base T y k (b, oe) (Fw b cl))
    (hv : ∀ cl ∈ errs, ∀ b st, Fw b cl [.exc b] st = .ok (wordD cl) st)
    (hda : (a == ("__debug__" : Str)) = false := by decide) (hca : (a == ("__classdict__" : Str)) = false := by decide) (hde : (e == ("__debug__" : Str)) = false := by decide) (hdy : (y == ("__debug__" : Str)) = false := by decide) (hd : (n == ("__debug__" : Str)) = false := by decide) (hcd : (n == ("__classdict__" : Str)) = false := by decide) : Told P w K mg base T errs x k := by
  obtain ⟨oc, od, dV, kV, doc, pm, an, cdv, ct, osl, efd, lk, hcg, _, _⟩ := F.ex
  subst efd
  refine ⟨g, pg, _, sg, [a, n], a, dV, kV, doc, pm, cdv, ct, oc, an, od, osl, hm, F.kp, lk, hcg, hb, S, rfl, hva, hda, hca, fun X e1 e2 e3 e4 e5 hr q => ?_⟩
  subst e1 e2 e3 e4 e5
  exact told_gives hr S.nd rfl hln hge hme hde (fun f => rfl) hgy hdy hd hcd hexm hw hv
/-- _law_told(lambda: e) -/
def eTold (errs : List Str) (f : ED) : ED := fun τ s => match f τ s with
  | .ok d s' => .ok d s'
  | .exc cl s' => if cl ∈ errs then .ok (wordD cl) s' else .no
  | .no => .no
theorem wf_lam {K : PySem.W.Frag} {T : List (Addr × Str)} {g : Gh} {H H1 : Hp} {s : Sto} (w : WF K T g H s) (e : ExtN H H1) (t : Tabs T H1) : WF K T g H1 s where
  sub := fun a o h => e a o (w.sub a o h) (fun ps z => w.notab a ps (by rw [h, z]))
  inj := w.inj
  out := w.out
  sto := fun n o h => by
    obtain ⟨a, h1, h2⟩ := w.sto n o h
    obtain ⟨u, hu, nt⟩ := h2.there
    exact ⟨a, h1, h2.move (Le.refl g) ((e a u hu nt).trans hu.symm)⟩
  nxt := w.nxt
  tab := t
  notab := w.notab
theorem ext_lam {g : Gh} {H H1 : Hp} (e : ExtN H H1) (d : ∀ b, H b ≠ none → H1 b ≠ none) : Ext g H g H1 := ⟨Le.refl g, fun a o h _ nt => e a o h nt, fun _ _ => rfl, fun _ _ h => .inl h, d⟩
theorem de_told {c : Ctx} {errs : List Str} {x : Str} {k : Nat} {cc PT : Addr} {params : Arguments} {body : Expr} {scope : Scope} {fb : ED} {p lpos pos : Pos} (h : Told c.X.prog c.X.w c.X.K c.X.mg c.X.base c.T errs x k) (TB : TabB c.X.base c.X.mg cc PT) (hcode : c.X.env.code = .ref cc) (hT : c.T = [(PT, c.X.env.qual ++ "<lambda>")]) (hr : Room (k + 2) c.X.A)
    (hbody : ∀ (A : Around) (outer : List Env) (s : Shared) (H : Hp) (E : XK) (f c' : Addr), Room k (A.deeper (lamEnv c.X scope s.heap.objs.size f c')) → DE .z ⟨lamCxN c.X A outer s H E scope f c', c.T, E, c.O⟩ body fb)
    (L : lamSB c.X.env.scope scope = true := by kernel_rfl) (hdef : defaultsOf params c.X.env = ([], []) := by rfl)
    (hbind : ∀ (q : Str) (cl : List (Str × Addr)) (pm cv ctv : Value), bindArgs (PySem.W.kla_fn "<lambda>" q params body scope cl pm cv ctv) ⟨[], []⟩ = pure [] := by intro _ _ _ _ _; rfl)
    (hg : Gl c.X x := by rfl) (hdb : (x == ("__debug__" : Str)) = false := by decide) :
    DE .z c (.Call (.Name x p) [.Lambda params body scope lpos] [] pos) (eTold errs fb) := by
  obtain ⟨g, pg, bg, sg, Ng, a, dV, kV, doc, pm, cdv, ct, oc, an, od, osl, hm, hk, lk, hcg, hb, S, h0, hva, hda, hca, hG⟩ := h.ex
  refine de_mk (pe_lamcallN (T := c.T) (t := fun E => tEK .z c.X.K c.T E c.O fb) hg hm hk lk hcg hb S h0 hva (hG c.X rfl rfl rfl rfl rfl (hr.mono (by omega)) _) TB hcode (by rw [hT]; exact List.mem_cons_self) (fun q hq _ => ?_) hr (lamS_by L) hdef hbind (fun A outer s H E f c' hr' => (hbody A outer s H E f c' hr').can) hdb hda hca) fun g H s σ τ Q o h => ?_
  · rw [hT] at hq
    have : q = (PT, c.X.env.qual ++ "<lambda>") := by simpa using hq
    rw [this]
  · refine ⟨o.wf.tab, fun H1 eN dN tN => ?_⟩
    have w1 := wf_lam o.wf eN tN
    have e1 : Ext g H g H1 := ext_lam eN dN
    refine ⟨g, s, τ, w1, o.sl.ext e1, ?_⟩
    unfold eTold at h
    cases z : fb τ s with
    | ok d s' =>
      rw [z] at h
      exact fun g' H' e' w' v rv => h g' H' (e1.trans e') w' v rv
    | exc cl s' =>
      rw [z] at h
      have h : Pg c g H _ (if cl ∈ errs then R.ok (wordD cl) s' else R.no) := h
      by_cases hc : cl ∈ errs
      · rw [if_pos hc] at h
        exact fun g' H' e' w' => ⟨cl, hc, rfl, rfl, g', s', w', fun v g'' H'' e'' w'' r'' => h g'' H'' ((e1.trans e').trans e'') w'' v r''⟩
      · rw [if_neg hc] at h
        exact h.elim
    | no => rw [z] at h; exact h
theorem lam_tk {X : Cx} {A : Around} {outer : List Env} {s : Shared} {H : Hp} {E : XK} {scope : Scope} {f c' : Addr} : L2N.Takes (lamCxN X A outer s H E scope f c') (fun cls d _ H => E cls d H) := L2N.takes_of (X := lamCxN X A outer s H E scope f c') (E := E) rfl rfl rfl rfl
theorem lam_hx {X : Cx} {A : Around} {outer : List Env} {s : Shared} {H : Hp} {E : XK} {scope : Scope} {f c' : Addr} : Passes (L2N.CX X.prog X.w) (lamCxN X A outer s H E scope f c') E := L2N.passes_call (X := lamCxN X A outer s H E scope f c') lam_tk fun _ _ _ _ h => h
/-! ### the law's def, whose code object has a table -/
theorem fn_mkT {P : Program} {w : World} {K : PySem.W.Frag} {mg : Str → Option Value} {base : Heap} {T : List (Addr × Str)} {x qual : Str} {params : Arguments} {body : List Stmt} {scope : Scope} {f : Addr} {fd : FuncData} {kws : List (Str × V)} {N ps : List Str} {k : Nat} {b : SD} (O : Nat → Bool) (F : FunD K x qual params body scope [] kws f fd) (S : FnScope N ps scope) (hf : f = He.fAd K (x, none))
    (hbody : ∀ (A : Around) (outer : List Env) (s : Shared) (H : Hp) (E : XK), Room k (A.deeper (envOfC qual scope s.heap.objs.size f (.ref (He.codeOf K (x, none))))) →
      Passes (L2N.CX P w) (cxD P w K mg base T N qual scope f (.ref (He.codeOf K (x, none))) A outer s H E O).X E → (L2N.Takes (cxD P w K mg base T N qual scope f (.ref (He.codeOf K (x, none))) A outer s H E O).X fun cls d _ H => E cls d H) → PassesOwn (model P w) (cxD P w K mg base T N qual scope f (.ref (He.codeOf K (x, none))) A outer s H E O).X.A (cxD P w K mg base T N qual scope f (.ref (He.codeOf K (x, none))) A outer s H E O).X.env (cxD P w K mg base T N qual scope f (.ref (He.codeOf K (x, none))) A outer s H E O).X.xe →
      DSs (cxD P w K mg base T N qual scope f (.ref (He.codeOf K (x, none))) A outer s H E O) body b) (hO : (List.range ps.length).all (fun i => !O i) = true := by rfl) : FnOk P w K mg base (L2N.CX P w) (k + 1) f fd ps (spOf K T (fnM ps.length N.length b)) := by
  obtain ⟨oc, od, dV, kV, doc, pm, an, cdv, ct, osl, efd, lk, hcd, hx1, hx2⟩ := F.ex
  obtain ⟨cc, ec⟩ := He.codeIn_ref hcd
  have e1 : cdv = .ref (He.codeOf K (x, none)) := by
    rw [ec, He.codeOf_eq (K := K) (p := (x, none)) (fd := fd) (by rw [← hf]; exact lk) (by rw [efd]; exact ec)]
  subst efd
  refine fn_of lk hcd S (fun vs H Q E h => ?_) fun A outer s H vs Q E hr h => ?_
  · obtain ⟨g, st, ds, w1, r, h⟩ := h
    rw [r.length]
    unfold fnM at h
    by_cases q : ds.length = ps.length
    · exact q
    · rw [if_neg q] at h; exact h.elim
  · have tk := L2N.takes_of (X := cxOf (L2N.CX P w) P w K mg base N qual scope f (.ref (He.codeOf K (x, none))) A outer s H E) (E := E) rfl rfl rfl rfl
    rw [e1] at hr ⊢
    obtain ⟨t, p, q⟩ := hbody A outer s H E hr (L2N.passes_call tk fun _ _ _ _ h => h) tk (passes_of (X := cxOf (L2N.CX P w) P w K mg base N qual scope f (.ref (He.codeOf K (x, none))) A outer s H E) rfl)
    refine ⟨t, p, ?_⟩
    obtain ⟨g, st, ds, w1, r, h⟩ := h
    obtain ⟨hl, h2⟩ := body_end (c := cxD P w K mg base T N qual scope f (.ref (He.codeOf K (x, none))) A outer s H E O) (N := N) (np := ps.length) h fun _ _ _ z => z
    exact q g H g H st (L2.start N vs) _ _ (SOk.start (c := cxD P w K mg base T N qual scope f (.ref (He.codeOf K (x, none))) A outer s H E O) (N := N) (np := ps.length) w1 r hl fun i hi => by
      have := List.all_eq_true.mp hO i (List.mem_range.mpr hi)
      simpa using this) h2
end Mir

set_option Elab.async false
set_option linter.all false
set_option maxRecDepth 100000
set_option maxHeartbeats 4000000
/-! Mir, part P: enumerate of a text; tuple targets. -/
namespace Mir
open PySem PySem.Spec PyProof.Rows L2
theorem striter_ty (x : Str) : strIterType x = "str_ascii_iterator" ∨ strIterType x = "str_iterator" := by
  unfold strIterType
  split
  · exact .inl rfl
  · exact .inr rfl
def IteS (x : Str) : It := ⟨fun i _ => i < x.cps.size, fun i H v H' => ∃ T c, x.cps[i]? = some c ∧ v = .ref T ∧ H T = none ∧ H' = upd H T (.tup [.int (i : Nat), .str ⟨#[c]⟩]), fun i _ => x.cps.size ≤ i⟩
theorem draws_str {prog : Program} {w : World} {A : Around} (hh : A.handled = none) (it : Addr) (x : Str) (t : Tok) :
    Draws prog w A it [it] x.cps.size (fun i v => ∃ c u, x.cps[i]? = some c ∧ v = .str ⟨#[c]⟩ u) (fun i h => h.IsStrIter it (strIterType x) x t i) := by
  rcases striter_ty x with e | e
  · rw [e]; exact Draws.strAscii hh it x t
  · rw [e]; exact Draws.strWide hh it x t
theorem turn_enumS {P : Program} {w : World} {K : PySem.W.Frag} {elts : List Expr} {kk : Nat} {tpos : Pos} (e it : Addr) (x : Str) (t : Tok) :
    Turn P w K (.Tuple elts kk tpos) (IteS x) [e, it] e (fun i h => (∃ old, IsEnum h e it ((i : Nat) : Int) old) ∧ h.IsStrIter it (strIterType x) x t i ∧ e ≠ it ∧ i ≤ x.cps.size) where
  mem := by simp
  obj := fun i h st b hb => by
    obtain ⟨⟨old, he⟩, ⟨o, ho, hc, hd⟩, _⟩ := st
    have e' : b = e ∨ b = it := by simpa using hb
    rcases e' with z | z
    · rw [z]; exact ⟨_, he, fun v q => nomatch q⟩
    · rw [z]; exact ⟨o, ho, fun v q => by rw [hd] at q; cases q⟩
  keep := fun i h h' st k => let ⟨⟨old, he⟩, ⟨o, ho, r⟩, hne⟩ := st; ⟨⟨old, k e (by simp) _ he⟩, ⟨o, k it (by simp) o ho, r⟩, hne⟩
  item := by
    intro X hP hw hK hc i pins s σ H E I hf st hg
    subst hP hw hK
    obtain ⟨⟨old, he⟩, hit, hne, hle⟩ := st
    have hel : e < s.heap.objs.size := Heap.lt_size he
    have hil : it < s.heap.objs.size := by obtain ⟨_, q, _⟩ := hit; exact Heap.lt_size q
    have D : Draws X.prog X.w X.A.in1 it [it] x.cps.size (fun i v => ∃ c u, x.cps[i]? = some c ∧ v = .str ⟨#[c]⟩ u) (fun i h => h.IsStrIter it (strIterType x) x t i) := draws_str (A := X.A.in1) (I.ok.hd hc) it x t
    refine wpAny_pyNext_enum_itemD D he hit hg hne (by simpa using hne) fun u h' tk hu ho hit' hT hsz hk => ?_
    obtain ⟨c, ut, hcx, rfl⟩ := hu
    refine ⟨_, rfl, wpAny_letOwnedTupleGo_enum (s := { s with heap := h', toks := tk + 1 }) ho fun h'' he' sb => ?_⟩
    have hT2 : h''.get? s.heap.objs.size = some { cls := .type "tuple", data := .seq #[.int i tk, .str ⟨#[c]⟩ ut] } := (sb.2 _ (Nat.ne_of_gt hel)).trans hT
    have new : ObjOk X.prog X.w (upd H s.heap.objs.size (.tup [.int (i : Nat), .str ⟨#[c]⟩])) h'' s.heap.objs.size (.tup [.int (i : Nat), .str ⟨#[c]⟩]) :=
      ⟨by show 2 ≤ sizeLine; decide, [.int i tk, .str ⟨#[c]⟩ ut], .cons ⟨_, rfl⟩ (.cons ⟨_, rfl⟩ .nil), ⟨_, hT2, rfl, _, rfl⟩⟩
    have I1 : Inv X pins σ (upd H s.heap.objs.size (.tup [.int (i : Nat), .str ⟨#[c]⟩])) { s with heap := h'', toks := tk + 1 } :=
      I.turnedNew (ch := [e, it]) (fun b ob hb q => (sb.2 b (fun z => hb (by simp [z]))).trans (hk b ob (fun z => hb (by simp [z])) (fun z => hb (by simp [z])) q)) hf (Nat.le_refl _) new
    refine ⟨.ref s.heap.objs.size, _, I1, rfl, ⟨_, c, hcx, rfl, I.hok.fresh (Nat.le_refl _), rfl⟩, ⟨⟨.str ⟨#[c]⟩ ut, ?_⟩, ?_, hne, hg⟩, fun b hb => ?_⟩
    · have e1 : ((i + 1 : Nat) : Int) = (i : Int) + 1 := by omega
      rw [e1]; exact he'
    · obtain ⟨o, q, r⟩ := hit'
      exact ⟨o, (sb.2 it (Ne.symm hne)).trans q, r⟩
    · have hb' : b < s.heap.objs.size := by
        have e' : b = e ∨ b = it := by simpa using hb
        rcases e' with z | z
        · rw [z]; exact hel
        · rw [z]; exact hil
      rw [upd_ne (Nat.ne_of_lt hb')]
      exact (hf b hb).1
  done := by
    intro X hP hw hK hc i pins s σ H E I hf st hg
    subst hP hw hK
    obtain ⟨⟨old, he⟩, hit, hne, hle⟩ := st
    have hi : i = x.cps.size := Nat.le_antisymm hle hg
    subst hi
    obtain ⟨f0, f1, f2, f3, f4, f5⟩ := hf it (by simp)
    have D : Draws X.prog X.w X.A.in1 it [it] x.cps.size (fun i v => ∃ c u, x.cps[i]? = some c ∧ v = .str ⟨#[c]⟩ u) (fun i h => h.IsStrIter it (strIterType x) x t i) := draws_str (A := X.A.in1) (I.ok.hd hc) it x t
    exact wpAny_pyNext_enum_endD D he hit fun h' eb => ⟨rfl, I.turned (t' := s.toks) (fun b o hb q => eb b o hb q) f0 f1 f3 f4 f5⟩
  self := fun A i s Q E st h => let ⟨⟨_, he⟩, _⟩ := st; wpAny_pyIter_enum he h
def iEnumS (ta : TA) : TI := fun σ H R => ta σ H fun vs H1 => ∃ x, vs = [.str x] ∧ R (IteS x) H1
theorem pi_enumS {X : Cx} {e : Expr} {ta : TA} {p pos tpos : Pos} {elts : List Expr} {kk : Nat} (hg : Gl X "enumerate") (hm : X.mg "enumerate" = none) (ha : PA X [e] ta) (hs : starEach [e] X.env = [(false, eval e X.env)] := by rfl) :
    PI X (.Tuple elts kk tpos) (.Call (.Name "enumerate" p) [e] [] pos) (iEnumS ta) := by
  refine ⟨fun pins s σ H R I h => ?_⟩
  refine Call_ (ld_blt I hg hm boot_enumerate (PyProof.Rows.callWith_type1 (thn (ha.run pos pins s σ H _ I h) fun us s1 ⟨vs, H1, I1, r1, q1⟩ => ?_) hs rfl))
  obtain ⟨x, ex, q⟩ := q1
  subst ex
  cases r1 with
  | cons r rr =>
    cases rr
    obtain ⟨t, rfl⟩ := r
    refine call_enumerate_str fun h' he hit hsz hk => wpAny_pyIter_enum he ?_
    have I2 : Inv X pins σ H1 { s1 with heap := h' } := I1.kept (t' := s1.toks) hk
    refine ⟨s1.heap.objs.size + 1, [s1.heap.objs.size + 1, s1.heap.objs.size], _, _, H1, rfl, I2, turn_enumS (s1.heap.objs.size + 1) s1.heap.objs.size x t, ⟨⟨.none, he⟩, hit, Nat.succ_ne_self _, Nat.zero_le _⟩, fun b hb => ?_, q⟩
    have e' : b = s1.heap.objs.size + 1 ∨ b = s1.heap.objs.size := by simpa using hb
    have hle : s1.heap.objs.size ≤ b := by
      rcases e' with z | z
      · rw [z]; exact Nat.le_add_right _ _
      · rw [z]; exact Nat.le_refl _
    exact I1.fpOk hle (I1.hok.fresh hle)
section
variable {c : Ctx}
def enumSD : List D → Option (List D)
  | [.str x] => some (enumFrom 0 (x.cps.toList.map fun k => .str ⟨#[k]⟩))
  | _ => none
theorem di_enumS {e : Expr} {f : AD} {elts : List Expr} {kk : Nat} {p pos tpos : Pos} (ha : DA .z c [e] f) (hm : c.X.mg "enumerate" = none) (hg : Gl c.X "enumerate" := by rfl)
    (hs : starEach [e] c.X.env = [(false, eval e c.X.env)] := by rfl) : DI c (.Tuple elts kk tpos) (.Call (.Name "enumerate" p) [e] [] pos) (iN enumSD f) := by
  obtain ⟨t, pt, qt⟩ := ha
  refine ⟨iEnumS t, pi_enumS hg hm pt hs, fun g H s σ τ R o h => qt g H s σ τ _ o (Pg.seq h fun xs s1 g1 H1 er e1 w1 h1 vs rs => ?_)⟩
  clear er
  obtain ⟨b, eb, k⟩ := h1.opt
  unfold enumSD at eb
  split at eb
  · rename_i x
    cases eb
    obtain ⟨v, rfl, r1⟩ := rs.one
    have r1 : Rep c.X.K g1 v (.str x) := r1
    cases r1
    refine ⟨x, rfl, k g1 H1 (Ext.refl _ _) w1 _ ⟨fun i d hd g2 H2 s2 l2 w2 => ?_, fun g2 H2 s2 l2 w2 => ?_⟩⟩
    · obtain ⟨y, hy, rfl⟩ := enum_get _ 0 i d hd
      rw [List.getElem?_map] at hy
      cases hc : x.cps.toList[i]? with
      | none => rw [hc] at hy; cases hy
      | some kc =>
        rw [hc] at hy
        cases hy
        have hc' : x.cps[i]? = some kc := by rw [← Array.getElem?_toList]; exact hc
        refine ⟨(Array.getElem?_eq_some_iff.mp hc').1, fun z H3 hz => ?_⟩
        obtain ⟨T, c1, h1, rfl, hT, e3⟩ := hz
        rw [hc'] at h1; cases h1
        rw [Nat.zero_add]
        exact gives_new (g1 := g1) (g3 := g1) w2 hT (.cons (.int _) (.cons (.str _) .nil)) e3
    · show x.cps.size ≤ _
      rw [enum_len, List.length_map, Array.length_toList]
      exact Nat.le_refl _
  · cases eb
/-! ### a, b = e -/
def sAsg (f : ED) (tg : D → Ev → Option Ev) : SD := fun τ s => (f τ s).bind fun d => match tg d τ with
  | some τ1 => M.ret (.nx τ1)
  | none => fun _ => .no
theorem ds_asg {tg e : Expr} {f : ED} {ws : List Nat} {fg : D → Ev → Option Ev} {pos : Pos} (he : DE .z c e f) (hg : DG c tg ws fg) (hO : ws.all (fun i => !c.O i) = true := by rfl) (hs : swapsWithSole [tg] e pos.line c.X.env = pure false := by rfl) (hw : swappedStores [tg] e c.X.env = pure none := by rfl)
    (h1 : (assignEach [tg] c.X.env).map (·.2) = [assign tg c.X.env] := by rfl) : DS c (.Assign [tg] e pos) (sAsg f fg) := by
  obtain ⟨t, pt, qt⟩ := he
  obtain ⟨u, pg, qg⟩ := hg
  have hO : ∀ i ∈ ws, c.O i = false := fun i hi => by
    have := List.all_eq_true.mp hO i hi
    simpa using this
  refine ⟨_, ps_asg pt pg hs hw h1, fun g0 H0 g H s σ τ Dn o h => qt g H s σ τ _ o.ok (Ps.seq o h fun d s1 g1 H1 _ e1 w1 o1 h6 v rv => ?_)⟩
  cases z : fg d τ with
  | none => rw [z] at h6; exact h6.elim
  | some τ1 =>
    rw [z] at h6
    exact qg g1 H1 s1 σ τ v d τ1 _ w1 rv z fun σ1 a => h6 g1 H1 σ1 (Le.refl _) (o1.wr hO a)
end
end Mir

set_option Elab.async false
set_option linter.all false
set_option maxRecDepth 100000
set_option maxHeartbeats 4000000
/-! Mir, part Q: what the generated text leans on. -/
theorem L2H.RoomH.units {k : Nat} {A : PySem.Around} (r : L2H.RoomH k A) : A.units + 64 < PySem.cLine := by have := r.un; omega
namespace Mir
open PySem PySem.Spec PyProof.Rows L2
structure WordF (K : PySem.W.Frag) (errs : List Str) : Prop where
  c : ∀ cl ∈ errs, ExcC K (He.ga K cl)
  k : ∀ cl ∈ errs, ∀ x ∈ errs, PySem.W.kitOne K (.ref (He.ga K cl)) (.ref (He.ga K x)) = some (cl == x)
  v : ∀ cl ∈ errs, PySem.W.kitOne K (.ref (He.ga K cl)) (.type "ValueError") = some true
theorem Told.mono {P : Program} {w : World} {K : PySem.W.Frag} {mg : Str → Option Value} {base : Heap} {T : List (Addr × Str)} {errs : List Str} {x : Str} {j k : Nat} (h : Told P w K mg base T errs x j) (hj : j ≤ k) : Told P w K mg base T errs x k := by
  obtain ⟨g, pg, bg, sg, Ng, a, dV, kV, doc, pm, cdv, ct, oc, an, od, osl, hm, hk, lk, hcg, hb, S, h0, hva, hda, hca, hG⟩ := h.ex
  exact ⟨g, pg, bg, sg, Ng, a, dV, kV, doc, pm, cdv, ct, oc, an, od, osl, hm, hk, lk, hcg, hb, S, h0, hva, hda, hca, fun X e1 e2 e3 e4 e5 hr q => hG X e1 e2 e3 e4 e5 (hr.mono (by omega)) q⟩
theorem eIsE_here (a : Addr) (b : Bool) (τ : Ev) (s : Sto) : eIsE 0 a b (some (.exc a) :: τ) s = .ok (.bl b) s := by simp [eIsE]
end Mir
namespace Mir
open PySem PySem.Spec PyProof.Rows L2
theorem passLN {X : Cx} : Passes (L2N.CX X.prog X.w) X W0 := fun pins σ H s e s' I c => by
  obtain ⟨_, _, _, _, _, _, _, _, _, _, _, _, z⟩ := c
  exact z.elim
end Mir
namespace Mir
open PySem PySem.Spec PyProof.Rows L2 LamX
theorem lamD_hx {X : Cx} {A : Around} {outer : List Env} {s : Shared} {H : Hp} {E : XK} {scope : Scope} {f c' : Addr} {T : List (Addr × Str)} {O : Nat → Bool} : Passes (L2N.CX (Ctx.mk (lamCxN X A outer s H E scope f c') T E O).X.prog (Ctx.mk (lamCxN X A outer s H E scope f c') T E O).X.w) (Ctx.mk (lamCxN X A outer s H E scope f c') T E O).X (Ctx.mk (lamCxN X A outer s H E scope f c') T E O).W := lam_hx (X := X) (A := A) (outer := outer) (s := s) (H := H) (E := E) (scope := scope) (f := f)
end Mir
namespace Mir
open PySem PySem.Spec PyProof.Rows L2
theorem eIsE_at (i : Nat) (a : Addr) (b : Bool) (τ : Ev) (s : Sto) (h : τ[i]? = some (some (.exc a))) : eIsE i a b τ s = .ok (.bl b) s := by
  unfold eIsE
  rw [h]
  simp
theorem seqE {a b : SD} {τ τ' : Ev} {s s' : Sto} {r : R Fl} (h : a τ s = .ok (.nx τ') s') (h2 : b τ' s' = r) : sSeq a b τ s = r := by
  unfold sSeq
  rw [h]
  exact h2
theorem isEok (a : Addr) (b : Bool) (x y z : Option D) (s : Sto) : eIsE 0 a b [some (D.exc a), x, y, z] s = .ok (.bl b) s := eIsE_at 0 a b _ s rfl
end Mir
namespace Mir
open PySem PySem.Spec PyProof.Rows L2
theorem notIsE (a : Addr) (b : Bool) (x y z : Option D) : tNotD (tB1 (eIsE 0 a b)) [some (D.exc a), x, y, z] = fun s => .ok (!b) s := funext fun s => by
  simp only [tNotD, tB1, isEok]
  rfl
end Mir

set_option Elab.async false
set_option linter.all false
set_option maxRecDepth 100000
set_option maxHeartbeats 4000000
/-! Mir, part R: the end. -/
namespace Mir
open PySem PySem.Spec PyProof.Rows L2 LamX
def wordB1 (K : PySem.W.Frag) (D : Addr) : Bool := He.eqO (PySem.W.findIn K (.ref D) "__getattribute__") (some (some (.builtin "BaseException.__getattribute__"))) && (He.eqO (PySem.W.findIn K (.ref D) "__getattr__") (some none) && (decide (PySem.W.subIn K (.ref D) (.type "BaseException") = some true) && (PySem.W.hasDictIn K D && (He.eqO (PySem.W.findIn K (.ref D) "__class__") (some (some (.builtin "object.__class__"))) && (He.eqO (PySem.W.specialIn K (.builtin "object.__class__") "__get__") (some (some (.builtin "getset_descriptor.__get__"))) && (decide (PySem.W.takesIn K (.builtin "object.__class__") = some true) && decide (PySem.W.mroIn K D (.type "object") = some true)))))))
theorem wordB1_ok {K : PySem.W.Frag} {D : Addr} (h : wordB1 K D = true) : ExcC K D := by
  obtain ⟨h1, h⟩ := He.ba h
  obtain ⟨h2, h⟩ := He.ba h
  obtain ⟨h3, h⟩ := He.ba h
  obtain ⟨h4, h⟩ := He.ba h
  obtain ⟨h5, h⟩ := He.ba h
  obtain ⟨h6, h⟩ := He.ba h
  obtain ⟨h7, h8⟩ := He.ba h
  exact ⟨He.eqO_ok h1, He.eqO_ok h2, of_decide_eq_true h3, h4, He.eqO_ok h5, He.eqO_ok h6, of_decide_eq_true h7, of_decide_eq_true h8⟩
def wordB (errs : List Str) (K : PySem.W.Frag) : Bool := errs.all fun cl => wordB1 K (He.ga K cl) && ((errs.all fun x => decide (PySem.W.kitOne K (.ref (He.ga K cl)) (.ref (He.ga K x)) = some (cl == x))) && decide (PySem.W.kitOne K (.ref (He.ga K cl)) (.type "ValueError") = some true))
theorem wordB_ok {errs : List Str} {K : PySem.W.Frag} (h : wordB errs K = true) : WordF K errs := by
  have key : ∀ cl ∈ errs, _ := fun cl hcl => He.ba (List.all_eq_true.mp h cl hcl)
  exact ⟨fun cl hcl => wordB1_ok (key cl hcl).1, fun cl hcl x hx => of_decide_eq_true (List.all_eq_true.mp (He.ba (key cl hcl).2).1 x hx), fun cl hcl => of_decide_eq_true (He.ba (key cl hcl).2).2⟩
theorem excF_ok {K : PySem.W.Frag} {h : Heap} {mg : Str → Option Value} {x : Str} (X : K.In h) (G : h.Ns mainGlobals mg) (a : (He.Fa.glo x).ok K = true) (b : (He.Fa.exc x).ok K = true) : ExcF K mg x := by
  obtain ⟨h1, h2, h3, h4⟩ := He.exc_ok b
  exact ⟨He.glo_ok X G a, h1, h2, h3, h4⟩
/-- the law's promise, at its script -/
theorem law_sp {K : PySem.W.Frag} {T : List (Addr × Str)} {F : FD} {H : Hp} {a : Addr} {ns : List Int} (hT : Tabs T H) (hs : SqL K H a (ns.map V.int)) (hF : ∃ s', F [.scr ns] [] = .ok (.bl true) s') : spOf K T F [.ref a] H (fun v _ => v = .bl true) fun _ _ _ => False := by
  obtain ⟨s', hF⟩ := hF
  have key : ∃ G : Hp, (∀ b o, G b = some o → H b = some o) ∧ (∀ b ps, G b ≠ some (.tbl ps)) ∧ SqL K G a (ns.map V.int) := by
    rcases hs with (hs | ⟨o, hs⟩) | hs
    · refine ⟨fun b => if b = a then some (.lst (ns.map V.int)) else none, fun b o e => ?_, fun b ps e => ?_, .inl (.inl (if_pos rfl))⟩
      · by_cases z : b = a
        · subst z; simp only [if_true] at e; cases e; exact hs
        · simp only [if_neg z] at e; cases e
      · by_cases z : b = a
        · simp only [if_pos z] at e; cases e
        · simp only [if_neg z] at e; cases e
    · refine ⟨fun b => if b = a then some (.frz o (.lst (ns.map V.int))) else none, fun b o e => ?_, fun b ps e => ?_, .inl (.inr ⟨o, if_pos rfl⟩)⟩
      · by_cases z : b = a
        · subst z; simp only [if_true] at e; cases e; exact hs
        · simp only [if_neg z] at e; cases e
      · by_cases z : b = a
        · simp only [if_pos z] at e; cases e
        · simp only [if_neg z] at e; cases e
    · exact ⟨fun _ => none, fun _ _ e => (by cases e), fun _ _ e => (by cases e), .inr hs⟩
  obtain ⟨G, h1, h2, h3⟩ := key
  refine ⟨⟨G, fun _ => none⟩, [], [.scr ns], ⟨h1, fun _ _ _ e => (by cases e), fun _ _ e => (by cases e), fun n o e => ?_, fun _ _ e => (by cases e), hT, h2⟩, .cons (.scr h3) .nil, ?_⟩
  · simp at e
  · rw [hF]
    intro v g' H' _ _ r
    cases r
    rfl
end Mir

set_option Elab.async false
set_option linter.all false
set_option maxRecDepth 100000
set_option maxHeartbeats 4000000
/-! Mir, part O: objects of the store. -/
namespace Mir
open PySem PySem.Spec PyProof.Rows L2
/-! ### the store grows, an object of it changes -/
def Gh.addR (g : Gh) (n : Nat) (p : Addr) : Gh := { g with r := fun m => if m = n then some p else g.r m }
section
variable {K : PySem.W.Frag} {T : List (Addr × Str)} {g g' g0 : Gh} {H H' H0 : Hp} {s : Sto}
theorem Gh.addR_at {n : Nat} {p : Addr} : (g.addR n p).r n = some p := if_pos rfl
theorem WF.addR_le (w : WF K T g H s) {p : Addr} : Le g (g.addR s.length p) := ⟨fun _ _ h => h, fun n a h => by
  have := w.nxt n a h
  show (if n = s.length then some p else g.r n) = some a
  rw [if_neg (by omega)]; exact h⟩
theorem WF.push (w : WF K T g H s) {p : Addr} {ob : Ob} (hp : g.G p = none) (hr : ∀ n, g.r n ≠ some p) (ok : ObOk K g H p ob) : WF K T (g.addR s.length p) H (s ++ [ob]) where
  sub := w.sub
  inj := fun n m a h1 h2 => by
    have h1 : (if n = s.length then some p else g.r n) = some a := h1
    have h2 : (if m = s.length then some p else g.r m) = some a := h2
    by_cases e1 : n = s.length <;> by_cases e2 : m = s.length
    · rw [e1, e2]
    · rw [if_pos e1] at h1; cases h1; rw [if_neg e2] at h2; exact absurd h2 (hr m)
    · rw [if_pos e2] at h2; cases h2; rw [if_neg e1] at h1; exact absurd h1 (hr n)
    · rw [if_neg e1] at h1; rw [if_neg e2] at h2; exact w.inj n m a h1 h2
  out := fun n a h o ho => by
    have h : (if n = s.length then some p else g.r n) = some a := h
    have ho : g.G a = some o := ho
    by_cases e : n = s.length
    · rw [if_pos e] at h; cases h; rw [hp] at ho; cases ho
    · rw [if_neg e] at h; exact w.out n a h o ho
  sto := fun n o h => by
    by_cases e : n < s.length
    · rw [List.getElem?_append_left e] at h
      obtain ⟨a, h1, h2⟩ := w.sto n o h
      exact ⟨a, w.addR_le.r n a h1, h2.move w.addR_le rfl⟩
    · have hl := (List.getElem?_eq_some_iff.mp h).1
      rw [List.length_append, List.length_singleton] at hl
      have en : n = s.length := by omega
      subst en
      rw [List.getElem?_append_right (Nat.le_refl _), Nat.sub_self] at h
      cases h
      exact ⟨p, Gh.addR_at, ok.move w.addR_le rfl⟩
  nxt := fun n a h => by
    have h : (if n = s.length then some p else g.r n) = some a := h
    rw [List.length_append, List.length_singleton]
    by_cases e : n = s.length
    · omega
    · rw [if_neg e] at h; have := w.nxt n a h; omega
  tab := w.tab
  notab := w.notab
theorem Ext.push (e : Ext g0 H0 g H) (w : WF K T g H s) {p : Addr} (hp : H0 p = none) : Ext g0 H0 (g.addR s.length p) H where
  le := e.le.trans w.addR_le
  keep := e.keep
  newG := e.newG
  newR := fun n a h => by
    have h : (if n = s.length then some p else g.r n) = some a := h
    by_cases q : n = s.length
    · rw [if_pos q] at h; cases h; exact .inr hp
    · rw [if_neg q] at h; exact e.newR n a h
  dom := e.dom
theorem WF.gfree (w : WF K T g H s) {n : Nat} {a : Addr} {ob : Ob} (hn : s[n]? = some ob) (ha : g.r n = some a) (hl : ∀ kds, ob ≠ .lck kds) : g.G a = none := by
  cases hq : g.G a with
  | none => rfl
  | some o =>
    obtain ⟨od, kvs, rfl⟩ := w.out n a ha o hq
    have hH := w.sub a _ hq
    obtain ⟨b, hb, k⟩ := w.sto n ob hn
    rw [ha] at hb; cases hb
    cases k with
    | lst h1 _ => rw [hH] at h1; cases h1
    | dct h1 _ => rw [hH] at h1; cases h1
    | ins h1 _ => rw [hH] at h1; cases h1
    | lck _ _ _ => exact absurd rfl (hl _)
theorem WF.setAt (w : WF K T g H s) {n : Nat} {a : Addr} {u' : HO} {ob ob' : Ob} (hn : s[n]? = some ob) (ha : g.r n = some a) (ok : ObOk K g (upd H a u') a ob') (hl : ∀ kds, ob ≠ .lck kds := by intro _ h; cases h) : WF K T g (upd H a u') (s.set n ob') where
  sub := fun b o h => by
    rw [upd_ne (fun q => by subst q; rw [w.gfree hn ha hl] at h; cases h)]; exact w.sub b o h
  inj := w.inj
  out := w.out
  sto := fun m o h => by
    by_cases e : n = m
    · subst e
      have hl := (List.getElem?_eq_some_iff.mp hn).1
      rw [List.getElem?_set_self hl] at h
      cases h
      exact ⟨a, ha, ok⟩
    · rw [List.getElem?_set_ne e] at h
      obtain ⟨b, h1, h2⟩ := w.sto m o h
      exact ⟨b, h1, h2.move (Le.refl g) (upd_ne fun q => by subst q; exact e (w.inj n m _ ha h1))⟩
  nxt := fun m b h => by rw [List.length_set]; exact w.nxt m b h
  tab := fun q hq => by
    obtain ⟨ps, h1, h2, h3⟩ := w.tab q hq
    obtain ⟨b, hb, k⟩ := w.sto n ob hn
    rw [ha] at hb; cases hb
    obtain ⟨u, hu, su⟩ := k.stb
    have n1 : q.1 ≠ a := fun z => by rw [z, hu] at h1; exact su.ntbl ps (Option.some.inj h1)
    refine ⟨ps, by rw [upd_ne n1]; exact h1, h2, fun pos cv hc => ?_⟩
    obtain ⟨c, e1, e2⟩ := h3 pos cv hc
    refine ⟨c, e1, ?_⟩
    rw [upd_ne fun z => ?_]
    · exact e2
    · rw [z, hu] at e2; exact su.ncode _ _ (Option.some.inj e2)
  notab := w.notab
theorem Ext.setAt {n : Nat} {a : Addr} {u' : HO} (ha : g.r n = some a) : Ext g H g (upd H a u') where
  le := Le.refl g
  keep := fun b o h k _ => by rw [upd_ne (fun q => by subst q; exact k n ha)]; exact h
  newG := fun _ _ => rfl
  newR := fun _ _ h => .inl h
  dom := fun b h => by
    by_cases q : b = a
    · subst q; rw [upd_same]; simp
    · rw [upd_ne q]; exact h
/-- what is new and one's own goes into the store -/
def obOf : D → Option Ob
  | .lst xs => some (.lst xs)
  | .dct kvs => some (.dct kvs)
  | _ => none
theorem KR.zip {κ : Type} : ∀ {ks : List κ} {xs : List V} {ds : List D}, Reps K g xs ds → KR K g (ks.zip xs) (ks.zip ds)
  | [], _, _, _ => by simp only [List.zip_nil_left]; exact .nil
  | _ :: _, _, _, .nil => by simp only [List.zip_nil_right]; exact .nil
  | k :: ks, _, _, .cons h r => by
    simp only [List.zip_cons_cons]
    exact .cons h (KR.zip r)
theorem KR.unzip {κ : Type} : ∀ {kvs : List (κ × V)} {kds : List (κ × D)}, KR K g kvs kds → ∃ (ks : List κ) (xs : List V) (ds : List D), kvs = ks.zip xs ∧ kds = ks.zip ds ∧ ks.length = xs.length ∧ Reps K g xs ds
  | _, _, .nil => ⟨[], [], [], rfl, rfl, rfl, .nil⟩
  | _, _, .cons (k := k) (v := v) (d := d) h r => by
    obtain ⟨ks, xs, ds, e1, e2, e3, e4⟩ := KR.unzip r
    exact ⟨k :: ks, v :: xs, d :: ds, by rw [e1]; rfl, by rw [e2]; rfl, by simp [e3], .cons h e4⟩
theorem RK.sto {v : V} {d : D} {ob : Ob} (e : Ext g H g' H') (w : WF K T g' H' s) (h : RK .o K g' H H' v d) (hb : obOf d = some ob) : ∃ g2, Ext g H g2 H' ∧ WF K T g2 H' (s ++ [ob]) ∧ Rep K g2 v (.obj s.length) := by
  rcases h with ⟨hc, _⟩ | ⟨h, p, hp, hn⟩
  · cases d <;> first | (cases hc; done) | (cases hb; done)
  · subst hp
    cases h with
    | lst h1 h2 h3 h4 =>
      cases hb
      exact ⟨_, e.push w hn, w.push h1 h2 (.lst h3 h4), .obj Gh.addR_at⟩
    | dct h1 h2 h3 l h4 =>
      cases hb
      exact ⟨_, e.push w hn, w.push h1 h2 (.dct h3 (KR.zip h4)), .obj Gh.addR_at⟩
end
section
variable {c : Ctx}
def eSto (f : ED) : ED := fun τ s => (f τ s).bind fun d s => match obOf d with
  | some ob => .ok (.obj s.length) (s ++ [ob])
  | none => .no
theorem de_sto {e : Expr} {f : ED} (h : DE .o c e f) : DE .z c e (eSto f) := by
  obtain ⟨t, p, q⟩ := h
  refine ⟨t, p, fun g H s σ τ Q o h => q g H s σ τ Q o ?_⟩
  unfold eSto at h
  cases r : f τ s with
  | ok d s' =>
    rw [r] at h
    have h : Pg c g H (fun d _ g' H' => ∀ v, RK Kd.z c.X.K g' H H' v d → Q v H') (match obOf d with | some ob => R.ok (D.obj s'.length) (s' ++ [ob]) | none => R.no) := h
    intro g' H' e' w' v hv
    cases hb : obOf d with
    | none => rw [hb] at h; exact h.elim
    | some ob =>
      rw [hb] at h
      obtain ⟨g2, e2, w2, r2⟩ := hv.sto e' w' hb
      exact h g2 H' e2 w2 v r2
  | exc cl s' => rw [r] at h; exact h
  | no => rw [r] at h; exact h
/-! ### fields -/
def fldO (cs : List Str) (f : Str) (s : Sto) : D → Option D
  | .obj n => match s[n]? with
    | some (.ins cl fs) => if cl ∈ cs then fs.lookup f else none
    | _ => none
  | _ => none
def eFld (cs : List Str) (f : Str) (a : ED) : ED := fun τ s => (a τ s).bind fun x s => M.opt (fldO cs f s x) s
structure FldF (K : PySem.W.Frag) (cs : List Str) (f : Str) : Prop where
  c : ∀ cl ∈ cs, Cls K (He.ga K cl)
  n : ∀ cl ∈ cs, NoAttr K (He.ga K cl) f
theorem KR.lookup {K : PySem.W.Frag} {g : Gh} {f : Str} {d : D} : ∀ {fs : List (Str × V)} {fds : List (Str × D)}, KR K g fs fds → fds.lookup f = some d → ∃ v, fs.lookup f = some v ∧ Rep K g v d
  | _, _, .nil, e => by cases e
  | _, _, .cons (k := k) (v := v) (d := d') (r := r) (r' := r') h q, e => by
    rw [List.lookup_cons] at e ⊢
    cases z : f == k with
    | true => rw [z] at e; cases e; exact ⟨v, rfl, h⟩
    | false => rw [z] at e; obtain ⟨u, h1, h2⟩ := KR.lookup q e; exact ⟨u, h1, h2⟩
theorem KR.lookupN {K : PySem.W.Frag} {g : Gh} {f : Str} : ∀ {fs : List (Str × V)} {fds : List (Str × D)}, KR K g fs fds → fds.lookup f = none → fs.lookup f = none
  | _, _, .nil, _ => rfl
  | _, _, .cons (k := k) (r := r) (r' := r') h q, e => by
    rw [List.lookup_cons] at e ⊢
    cases z : f == k with
    | true => rw [z] at e; cases e
    | false => rw [z] at e; exact KR.lookupN q e
theorem Rep.obj_at {K : PySem.W.Frag} {T : List (Addr × Str)} {g : Gh} {H : Hp} {s : Sto} {v : V} {n : Nat} {ob : Ob} (w : WF K T g H s) (h : Rep K g v (.obj n)) (hs : s[n]? = some ob) : ∃ a, v = .ref a ∧ g.r n = some a ∧ ObOk K g H a ob := by
  cases h with
  | @obj a _ hr =>
    obtain ⟨b, h1, h2⟩ := w.sto n ob hs
    rw [hr] at h1; cases h1
    exact ⟨_, rfl, hr, h2⟩
theorem de_fld {e : Expr} {f : Str} {fe : ED} {k : Kd} {cs : List Str} {pos : Pos} (F : FldF c.X.K cs f) (he : DE k c e fe) (hb : attributeBase e f c.X.env (eval e c.X.env) = eval e c.X.env := by rfl) : DE .z c (.Attribute e f pos) (eFld cs f fe) := by
  obtain ⟨t, p, q⟩ := he
  refine de_mk (pe_fld p hb) fun g H s σ τ Q o h => q g H s σ τ _ o (Pg.seq h fun x s1 g1 H1 _ e1 w1 h1 v rx => ?_)
  obtain ⟨d, ed, k1⟩ := h1.opt
  unfold fldO at ed
  split at ed
  · rename_i n
    split at ed
    · rename_i cl fs hs
      split at ed
      · rename_i hc
        obtain ⟨a, rfl, hr, ok⟩ := Rep.obj_at w1 rx.rep hs
        cases ok with
        | @ins _ dx fv _ ha kr =>
          obtain ⟨u, l1, l2⟩ := kr.lookup ed
          exact ⟨a, _, dx, fv, u, rfl, ha, F.c cl hc, F.n cl hc, l1, k1 g1 H1 (Ext.refl _ _) w1 u l2⟩
      · cases ed
    · cases ed
  · cases ed
def putFD (f : Str) (d : D) : List (Str × D) → List (Str × D)
  | [] => [(f, d)]
  | (g, x) :: r => if g = f then (g, d) :: r else (g, x) :: putFD f d r
theorem KR.putF {K : PySem.W.Frag} {g : Gh} {f : Str} {v : V} {d : D} (h : Rep K g v d) : ∀ {fs : List (Str × V)} {fds : List (Str × D)}, KR K g fs fds → KR K g (L2.putF f v fs) (putFD f d fds)
  | _, _, .nil => .cons h .nil
  | _, _, .cons (k := k) h' q => by
    unfold L2.putF putFD
    by_cases e : k = f
    · rw [if_pos e, if_pos e]; exact .cons h q
    · rw [if_neg e, if_neg e]; exact .cons h' (KR.putF h q)
theorem KR.length {κ : Type} {K : PySem.W.Frag} {g : Gh} : ∀ {fs : List (κ × V)} {fds : List (κ × D)}, KR K g fs fds → fs.length = fds.length
  | _, _, .nil => rfl
  | _, _, .cons _ q => congrArg (· + 1) (KR.length q)
/-- the store behind x.f = v -/
def setFld (cs : List Str) (f : Str) (v : D) (s : Sto) : D → Option Sto
  | .obj n => match s[n]? with
    | some (.ins cl fs) => if cl ∈ cs then (if fs.length < 1000 then some (s.set n (.ins cl (putFD f v fs))) else none) else none
    | _ => none
  | _ => none
def sFldSet (cs : List Str) (f : Str) (a v : ED) : SD := fun τ s => (v τ s).bind fun y s => (a τ s).bind fun x s => match setFld cs f y s x with
  | some s' => .ok (.nx τ) s'
  | none => .no
theorem ds_fld {o value : Expr} {f : Str} {fa fv : ED} {k : Kd} {cs : List Str} {pos pos' : Pos} (F : FldF c.X.K cs f) (ho : DE k c o fa) (hv : DE .z c value fv) (hs : swapsWith value (some (.Attribute o f pos')) pos.line c.X.env = pure false := by rfl) :
    DS c (.Assign [.Attribute o f pos'] value pos) (sFldSet cs f fa fv) := by
  obtain ⟨t, p, q⟩ := ho
  obtain ⟨t', p', q'⟩ := hv
  refine ⟨sFld c.X.K t t' f, ps_fld p p' hs, fun g0 H0 g H s σ τ Dn o h => q' g H s σ τ _ o.ok (Ps.seq o h fun y s1 g1 H1 _ e1 w1 o1 h1 u ru => q g1 H1 s1 σ τ _ o1.ok (Ps.seq o1 h1 fun x s2 g2 H2 _ e2 w2 o2 h2 v rx => ?_))⟩
  have ru2 : Rep c.X.K g2 u y := Rep.mono e2.le ru
  unfold setFld at h2
  obtain ⟨n, rfl⟩ : ∃ n, x = .obj n := by
    cases x <;> first | exact h2.elim | exact ⟨_, rfl⟩
  dsimp only at h2
  cases hs2 : s2[n]? with
  | none => rw [hs2] at h2; exact h2.elim
  | some ob =>
    rw [hs2] at h2
    cases ob <;> first | exact h2.elim | skip
    rename_i cl fs
    dsimp only at h2
    by_cases hc : cl ∈ cs
    · rw [if_pos hc] at h2
      by_cases hl : fs.length < 1000
      · rw [if_pos hl] at h2
        obtain ⟨a, rfl, hr, ok⟩ := Rep.obj_at w2 rx.rep hs2
        cases ok with
        | @ins _ dx fv' _ ha kr =>
          refine ⟨a, _, dx, fv', rfl, ha, F.c cl hc, F.n cl hc, by rw [kr.length]; exact hl, ?_⟩
          exact h2 g2 _ σ (Le.refl _) (o2.ext' (Ext.setAt hr) (w2.setAt hs2 hr (.ins upd_same (kr.putF ru2))))
      · rw [if_neg hl] at h2; exact h2.elim
    · rw [if_neg hc] at h2; exact h2.elim
/-! ### methods, new instances -/
structure HasM (P : Program) (w : World) (K : PySem.W.Frag) (mg : Str → Option Value) (base : Heap) (T : List (Addr × Str)) (C m : Str) (k : Nat) (F : FD) : Prop where
  c : Cls K (He.ga K C)
  ex : ∃ f fd ps, Meth K (He.ga K C) m f ∧ Binds K fd ps [] ∧ FnOk P w K mg base (L2N.CX P w) k f fd ps (spOf K T F)
structure HasN (P : Program) (w : World) (K : PySem.W.Frag) (mg : Str → Option Value) (base : Heap) (T : List (Addr × Str)) (C : Str) (k : Nat) (F : FD) : Prop where
  g : mg C = some (.ref (He.ga K C))
  ex : ∃ f fd ps, Mk K (He.ga K C) f ∧ Binds K fd ps [] ∧ FnOk P w K mg base (L2N.CX P w) k f fd ps (spOf K T F)
abbrev HasMX (c : Ctx) (C m : Str) (k : Nat) (F : FD) : Prop := HasM c.X.prog c.X.w c.X.K c.X.mg c.X.base c.T C m k F
abbrev HasNX (c : Ctx) (C : Str) (k : Nat) (F : FD) : Prop := HasN c.X.prog c.X.w c.X.K c.X.mg c.X.base c.T C k F
/-- x is an instance of C without an attribute m of its own -/
def isIns (C m : Str) (s : Sto) : D → Bool
  | .obj n => match s[n]? with
    | some (.ins cl fs) => decide (cl = C) && (fs.lookup m).isNone
    | _ => false
  | _ => false
theorem isIns_ok {K : PySem.W.Frag} {T : List (Addr × Str)} {g : Gh} {H : Hp} {s : Sto} {v : V} {x : D} {C m : Str} (w : WF K T g H s) (r : Rep K g v x) (h : isIns C m s x = true) : ∃ a dx fs, v = .ref a ∧ H a = some (.ins (He.ga K C) dx fs) ∧ fs.lookup m = none := by
  unfold isIns at h
  split at h
  · rename_i n
    split at h
    · rename_i cl fs hs
      obtain ⟨h1, h2⟩ := Bool.and_eq_true_iff.mp h
      have h1 := of_decide_eq_true h1
      subst h1
      obtain ⟨a, rfl, hr, ok⟩ := Rep.obj_at w r hs
      cases ok with
      | @ins _ dx fv _ ha kr =>
        refine ⟨a, dx, fv, rfl, ha, kr.lookupN ?_⟩
        cases z : fs.lookup m with
        | none => rfl
        | some d => rw [z] at h2; cases h2
    · cases h
  · cases h
def eMeth (C m : Str) (F : FD) (a : ED) (fs : AD) : ED := fun τ s => (a τ s).bind fun x s => if isIns C m s x then (fs τ s).bind fun xs => F (x :: xs) else .no
theorem evs_meth {C m : Str} {F : FD} {fa : ED} {fs : AD} {ta : TE} {t : TA} (qa : Evs .z c ta fa) (qt : Eva .z c t fs) : Evs .z c (tMeth (He.ga c.X.K C) m (spOf c.X.K c.T F) [] c.W ta t) (eMeth C m F fa fs) := fun g H s σ τ Q o h =>
  qa g H s σ τ _ o (Pg.seq h fun x s1 g1 H1 _ e1 w1 h1 v rx => by
    by_cases hi : isIns C m s1 x = true
    · rw [if_pos hi] at h1
      have rx : Rep c.X.K g1 v x := rx
      obtain ⟨a, dx, fv, rfl, ha, hl⟩ := isIns_ok w1 rx hi
      refine ⟨a, dx, fv, rfl, ha, hl, qt g1 H1 s1 σ τ _ (o.ext e1 w1) (Pg.seq h1 fun xs s2 g2 H2 _ e2 w2 h2 vs rs => ?_)⟩
      show spOf c.X.K c.T F (V.ref a :: (vs ++ [])) H2 Q c.W
      rw [List.append_nil]
      exact h2.sp w2 (.cons (rx.mono e2.le) rs.reps) fun d s' v g' H' e' w' r' k => k v r'
    · rw [if_neg hi] at h1; exact h1.elim)
theorem de_meth {o e : Expr} {es : List Expr} {C m : Str} {j k : Nat} {F : FD} {fa : ED} {fs : AD} {pl : Sem Bool} {apos pos : Pos} (h : HasMX c C m j F) (hr : Room k c.X.A) (hx : Passes (L2N.CX c.X.prog c.X.w) c.X c.W) (ho : DE .z c o fa) (ha : DA .z c (e :: es) fs) (hjk : j ≤ k := by decide)
    (hst : starEach (e :: es) c.X.env = (false, eval e c.X.env) :: starEach es c.X.env := by rfl) (hpl : (backTo pos (starEach es c.X.env)).any (·.1) = false := by rfl)
    (ht : eval (.Call (.Attribute o m apos) (e :: es) [] pos) c.X.env = (do
      let ov ← eval o c.X.env
      standAt apos.atName
      let (f, first) ← holding [ov] (getMethod ov m pl)
      callWith pos f first (backTo pos (starEach (e :: es) c.X.env)) (backToKw pos (keywordEach [] c.X.env))) := by rfl) : DE .z c (.Call (.Attribute o m apos) (e :: es) [] pos) (eMeth C m F fa fs) := by
  obtain ⟨f, fd, ps, hm, hb, hf⟩ := h.ex
  obtain ⟨ta, pa, qa⟩ := ho
  obtain ⟨t, pt, qt⟩ := ha
  exact de_mk (pe_meth pa h.c hm hf (hr.mono hjk) hb .nil hx pt hst hpl ht) (evs_meth qa qt)
theorem eva_nil {k : Kd} : Eva k c tNil aNil := fun g H s σ τ Q o h => Pg.now h o.wf [] .nil
theorem de_meth0 {o : Expr} {C m : Str} {j k : Nat} {F : FD} {fa : ED} {pl : Sem Bool} {apos pos : Pos} (h : HasMX c C m j F) (hr : Room k c.X.A) (hx : Passes (L2N.CX c.X.prog c.X.w) c.X c.W) (ho : DE .z c o fa) (hjk : j ≤ k := by decide)
    (ht : eval (.Call (.Attribute o m apos) [] [] pos) c.X.env = (do
      let ov ← eval o c.X.env
      standAt apos.atName
      let (f, first) ← holding [ov] (getMethod ov m pl)
      callWith pos f first (backTo pos (starEach [] c.X.env)) (backToKw pos (keywordEach [] c.X.env))) := by rfl) : DE .z c (.Call (.Attribute o m apos) [] [] pos) (eMeth C m F fa aNil) := by
  obtain ⟨f, fd, ps, hm, hb, hf⟩ := h.ex
  obtain ⟨ta, pa, qa⟩ := ho
  exact de_mk (pe_meth0 pa h.c hm hf (hr.mono hjk) hb .nil hx ht) (evs_meth qa eva_nil)
/-- C(..) -/
def newF (C : Str) (F : FD) (xs : List D) : M D := fun s => (F (.obj s.length :: xs) (s ++ [.ins C []])).bind fun r s' => match r with
  | .non => .ok (.obj s.length) s'
  | _ => .no
def eNew (C : Str) (F : FD) (fs : AD) : ED := fun τ s => (fs τ s).bind (newF C F)
theorem evs_new {C : Str} {F : FD} {fs : AD} {t : TA} (qt : Eva .z c t fs) : Evs .z c (tMake (He.ga c.X.K C) (spOf c.X.K c.T F) [] c.W t) (eNew C F fs) := fun g H s σ τ Q o h =>
  qt g H s σ τ _ o (Pg.seq h fun xs s1 g1 H1 _ e1 w1 h1 vs rs => by
    intro x dx hx hdx hne
    rw [List.append_nil]
    have wd := w1.new (o := .own x) hdx
    have ed : Ext g1 H1 g1 (upd H1 dx (.own x)) := Ext.new hdx
    have hx1 : (upd H1 dx (.own x)) x = none := by rw [upd_ne (Ne.symm hne)]; exact hx
    have wx := wd.new (o := .ins (He.ga c.X.K C) dx []) hx1
    have ex : Ext g1 H1 g1 (upd (upd H1 dx (.own x)) x (.ins (He.ga c.X.K C) dx [])) := ed.trans (Ext.new hx1)
    have wp := wx.push (p := x) (ob := .ins C []) (wd.gne hx1) (fun n => wd.rne hx1) (.ins upd_same .nil)
    have ep := ex.push wx hx
    refine ⟨_, s1 ++ [.ins C []], .obj s1.length :: xs, wp, .cons (.obj Gh.addR_at) (rs.reps.mono wx.addR_le), ?_⟩
    unfold newF at h1
    cases r : F (.obj s1.length :: xs) (s1 ++ [.ins C []]) with
    | ok d s' =>
      rw [r] at h1
      intro v g' H' e' w' r'
      cases d <;> first | exact h1.elim | skip
      cases r'
      exact ⟨rfl, h1 g' H' (ep.trans e') w' _ (.obj (e'.le.r _ _ Gh.addR_at))⟩
    | exc cl s' => rw [r] at h1; exact fun g' H' e' w' => h1 g' H' (ep.trans e') w'
    | no => rw [r] at h1; exact h1)
theorem de_new {e : Expr} {es : List Expr} {C : Str} {j k : Nat} {F : FD} {fs : AD} {p pos : Pos} (h : HasNX c C j F) (hr : Room k c.X.A) (hx : Passes (L2N.CX c.X.prog c.X.w) c.X c.W) (ha : DA .z c (e :: es) fs) (hjk : j + 1 ≤ k := by decide) (hg : Gl c.X C := by rfl) (hdb : (C == ("__debug__" : Str)) = false := by decide)
    (he : starEach (e :: es) c.X.env = (false, eval e c.X.env) :: starEach es c.X.env := by rfl) (hpl : (backTo pos (starEach es c.X.env)).any (·.1) = false := by rfl) : DE .z c (.Call (.Name C p) (e :: es) [] pos) (eNew C F fs) := by
  obtain ⟨f, fd, ps, hm, hb, hf⟩ := h.ex
  obtain ⟨t, pt, qt⟩ := ha
  exact de_mk (pe_make hm hf (hr.mono hjk) hg h.g hb .nil hx pt hdb he hpl) (evs_new qt)
theorem de_new0 {C : Str} {j k : Nat} {F : FD} {p pos : Pos} (h : HasNX c C j F) (hr : Room k c.X.A) (hx : Passes (L2N.CX c.X.prog c.X.w) c.X c.W) (hjk : j + 1 ≤ k := by decide) (hg : Gl c.X C := by rfl) (hdb : (C == ("__debug__" : Str)) = false := by decide) : DE .z c (.Call (.Name C p) [] [] pos) (eNew C F aNil) := by
  obtain ⟨f, fd, ps, hm, hb, hf⟩ := h.ex
  exact de_mk (pe_make0 hm hf (hr.mono hjk) hg h.g hb .nil hx hdb) (evs_new eva_nil)
end
end Mir

set_option Elab.async false
set_option linter.all false
set_option maxRecDepth 100000
set_option maxHeartbeats 4000000
/-! Mir, part I: dicts and lists of the store read and changed; what is never reached. -/
namespace Mir
open PySem PySem.Spec PyProof.Rows L2
section
variable {c : Ctx}
/-! ### what is never reached: no promise -/
def eNo : ED := fun _ _ => .no
def sNo : SD := fun _ _ => .no
theorem de_no {k : Kd} {e : Expr} : DE k c e eNo := ⟨fun _ _ _ => False, ⟨fun _ _ _ _ _ _ h => h.elim⟩, fun _ _ _ _ _ _ _ h => h⟩
theorem ds_no {st : Stmt} : DS c st sNo := ⟨fun _ _ _ => False, ⟨fun _ _ _ _ _ _ h => h.elim⟩, fun _ _ _ _ _ _ _ _ _ h => h⟩
theorem dss_no {sts : List Stmt} : DSs c sts sNo := ⟨fun _ _ _ => False, ⟨fun _ _ _ _ _ _ h => h.elim⟩, fun _ _ _ _ _ _ _ _ _ h => h⟩
/-! ### either reading -/
theorem pe_or {X : Cx} {e : Expr} {t t' : TE} (h : PE X e t) (h' : PE X e t') : PE X e (fun σ H Q => t σ H Q ∨ t' σ H Q) := ⟨fun pins s σ H Q I q => q.elim (h.run pins s σ H Q I) (h'.run pins s σ H Q I)⟩
theorem ps_or {X : Cx} {st : Stmt} {t t' : TS} (h : PS X st t) (h' : PS X st t') : PS X st (fun D σ H => t D σ H ∨ t' D σ H) := ⟨fun pins s σ H D I q => q.elim (h.run pins s σ H D I) (h'.run pins s σ H D I)⟩
/-! ### dicts -/
def keyD : D → Option Key
  | .int i => some (.inl i)
  | .str x => some (.inr x)
  | _ => none
theorem keyD_ok {K : PySem.W.Frag} {g : Gh} {H0 H : Hp} {k : Kd} {v : V} {d : D} {q : Key} (r : RK k K g H0 H v d) (h : keyD d = some q) : v = kV q := by
  cases d <;> first | (cases h; done) | skip
  · cases h; exact r.int
  · cases h; exact r.str
def dGet (kvs : List (Key × D)) (k : Key) : Option D := (kvs.find? fun kv => decide (kv.1 = k)).map (·.2)
def dPut (kvs : List (Key × D)) (k : Key) (d : D) : List (Key × D) := if (kvs.any fun kv => decide (kv.1 = k)) = true then kvs.map (fun kv => if kv.1 = k then (kv.1, d) else kv) else kvs ++ [(k, d)]
def dDrop (kvs : List (Key × D)) (k : Key) : List (Key × D) := kvs.filter fun kv => decide (kv.1 ≠ k)
section
variable {K : PySem.W.Frag} {g : Gh} {k : Key}
theorem KR.val : ∀ {kvs : List (Key × V)} {kds : List (Key × D)}, KR K g kvs kds → (dGet kds k = none ∧ valV kvs k = none) ∨ ∃ d v, dGet kds k = some d ∧ valV kvs k = some v ∧ Rep K g v d
  | _, _, .nil => .inl ⟨rfl, rfl⟩
  | _, _, .cons (k := q) (v := v) (d := d) (r := r0) (r' := r') h r => by
    by_cases e : q = k
    · exact .inr ⟨d, v, by simp [dGet, List.find?_cons, e], valV_pos e, h⟩
    · rw [valV_neg e]
      have e2 : dGet ((q, d) :: r') k = dGet r' k := by unfold dGet; rw [List.find?_cons]; simp [e]
      rw [e2]
      exact KR.val r
theorem KR.any : ∀ {kvs : List (Key × V)} {kds : List (Key × D)}, KR K g kvs kds → (kvs.any fun kv => decide (kv.1 = k)) = (kds.any fun kv => decide (kv.1 = k))
  | _, _, .nil => rfl
  | _, _, .cons _ r => by rw [List.any_cons, List.any_cons, KR.any r]
theorem KR.app : ∀ {kvs kvs' : List (Key × V)} {kds kds' : List (Key × D)}, KR K g kvs kds → KR K g kvs' kds' → KR K g (kvs ++ kvs') (kds ++ kds')
  | _, _, _, _, .nil, q => q
  | _, _, _, _, .cons h r, q => .cons h (KR.app r q)
theorem KR.map {v : V} {d : D} (h : Rep K g v d) : ∀ {kvs : List (Key × V)} {kds : List (Key × D)}, KR K g kvs kds → KR K g (kvs.map fun kv => if kv.1 = k then (kv.1, v) else kv) (kds.map fun kv => if kv.1 = k then (kv.1, d) else kv)
  | _, _, .nil => .nil
  | _, _, .cons (k := q) h' r => by
    rw [List.map_cons, List.map_cons]
    by_cases e : q = k
    · rw [if_pos e, if_pos e]; exact .cons h (KR.map h r)
    · rw [if_neg e, if_neg e]; exact .cons h' (KR.map h r)
theorem KR.put {v : V} {d : D} (h : Rep K g v d) {kvs : List (Key × V)} {kds : List (Key × D)} (r : KR K g kvs kds) : KR K g (putK kvs k v) (dPut kds k d) := by
  unfold putK dPut
  rw [KR.any r]
  by_cases e : (kds.any fun kv => decide (kv.1 = k)) = true
  · rw [if_pos e, if_pos e]; exact KR.map h r
  · rw [if_neg e, if_neg e]; exact KR.app r (.cons h .nil)
theorem KR.drop : ∀ {kvs : List (Key × V)} {kds : List (Key × D)}, KR K g kvs kds → KR K g (dropK kvs k) (dDrop kds k)
  | _, _, .nil => .nil
  | _, _, .cons (k := q) h r => by
    unfold dropK dDrop
    rw [List.filter_cons, List.filter_cons]
    by_cases e : q = k
    · simp only [e, ne_eq, not_true, decide_false]; exact KR.drop r
    · simp only [e, ne_eq, not_false_iff, decide_true]; exact .cons h (KR.drop r)
theorem KR.keys : ∀ {kvs : List (Key × V)} {kds : List (Key × D)}, KR K g kvs kds → kvs.map (·.1) = kds.map (·.1)
  | _, _, .nil => rfl
  | _, _, .cons _ r => by rw [List.map_cons, List.map_cons, KR.keys r]
end
/-- the dict that a value is: to be read -/
def dctAt (s : Sto) : D → Option (List (Key × D))
  | .obj n => match s[n]? with
    | some (.dct kvs) => some kvs
    | some (.lck kvs) => some kvs
    | _ => none
  | .dct kvs => some kvs
  | _ => none
theorem dctAt_ok {K : PySem.W.Frag} {T : List (Addr × Str)} {g : Gh} {H0 H : Hp} {s : Sto} {v : V} {d : D} {kds : List (Key × D)} (w : WF K T g H s) (r : RK .b K g H0 H v d) (h : dctAt s d = some kds) : ∃ a kvs, v = .ref a ∧ Rd H a (.dK kvs) ∧ KR K g kvs kds := by
  unfold dctAt at h
  split at h
  · rename_i n
    split at h
    · rename_i kvs hs
      cases h
      obtain ⟨a, rfl, hr, ok⟩ := Rep.obj_at w r.rep hs
      cases ok with
      | dct h1 h2 => exact ⟨a, _, rfl, .inl h1, h2⟩
    · rename_i kvs hs
      cases h
      obtain ⟨a, rfl, hr, ok⟩ := Rep.obj_at w r.rep hs
      cases ok with
      | lck h1 _ h2 => exact ⟨a, _, rfl, .inr ⟨_, h1⟩, h2⟩
    · cases h
  · cases h
    obtain ⟨a, ks, xs, ds, rfl, e1, h1, hl, rs⟩ := r.dct w
    exact ⟨a, _, rfl, .inl h1, by rw [e1]; exact KR.zip rs⟩
  · cases h
def lstAt (s : Sto) : D → Option (List D)
  | .obj n => match s[n]? with
    | some (.lst xs) => some xs
    | _ => none
  | _ => none
theorem lstAt_ok {K : PySem.W.Frag} {T : List (Addr × Str)} {g : Gh} {H0 H : Hp} {s : Sto} {v : V} {d : D} {ds : List D} (w : WF K T g H s) (r : RK .b K g H0 H v d) (h : lstAt s d = some ds) : ∃ a xs, v = .ref a ∧ H a = some (.lst xs) ∧ Reps K g xs ds := by
  unfold lstAt at h
  split at h
  · rename_i n
    split at h
    · rename_i kvs hs
      cases h
      obtain ⟨a, rfl, hr, ok⟩ := Rep.obj_at w r.rep hs
      cases ok with
      | lst h1 h2 => exact ⟨a, _, rfl, h1, h2⟩
    · cases h
  · cases h
/-! ### operations that look at the store -/
def e2S (op : Sto → D → D → Option D) (a b : ED) : ED := fun τ s => (a τ s).bind fun x s => (b τ s).bind fun y s => M.opt (op s x y) s
def eNS (op : Sto → List D → Option D) (a : AD) : ED := fun τ s => (a τ s).bind fun xs s => M.opt (op s xs) s
def ixS (s : Sto) (x y : D) : Option D := match dctAt s x with
  | some kvs => (keyD y).bind (dGet kvs)
  | none => match lstAt s x, y with
    | some xs, .int i => atI xs i
    | _, _ => ixD x y
theorem de_ixS {a b : Expr} {fa fb : ED} {pos : Pos} (hu : c.X.A.units + 64 < cLine) (ha : DE .b c a fa) (hb : DE .b c b fb) (hs : PlainIx b := by intro _ _; rfl) (hs2 : NoSl b := by intro _ _; rfl) : DE .z c (.Subscript a b pos) (e2S ixS fa fb) := by
  obtain ⟨t1, p1, q1⟩ := de_ix (pos := pos) ha hb hs
  obtain ⟨ta, pa, qa⟩ := ha
  obtain ⟨tb, pb, qb⟩ := hb
  refine de_mk (pe_or p1 (pe_or (pe_dget (by omega) pa pb hs2) (pe_ix ix_seq pa pb hs))) fun g H s σ τ Q o h => ?_
  have qd : ∀ x s1 y s2, fa τ s = .ok x s1 → fb τ s1 = .ok y s2 → dctAt s2 x ≠ none → tDGet ta tb σ H Q := fun x s1 y s2 ea eb hd => by
    refine qa g H s σ τ _ o (Pg.seq h fun x' s1' g1 H1 er e1 w1 h1 v rx0 => qb g1 H1 s1' σ τ _ (o.ext e1 w1) (Pg.seq h1 fun y' s2' g2 H2 er' e2 w2 h2 u ry => ?_))
    rw [ea] at er; cases er
    rw [eb] at er'; cases er'
    have rx := rx0.extB (H1 := H1) e2
    clear rx0
    obtain ⟨d, ed, k⟩ := h2.opt
    unfold ixS at ed
    cases z : dctAt s2 x with
    | none => exact absurd z hd
    | some kvs =>
      rw [z] at ed
      cases z2 : keyD y with
      | none => rw [z2] at ed; cases ed
      | some q =>
        rw [z2] at ed
        have ed : dGet kvs q = some d := ed
        obtain ⟨p, kv, rfl, hp, kr⟩ := dctAt_ok w2 rx z
        have ey := keyD_ok ry z2
        subst ey
        rcases kr.val (k := q) with ⟨z3, _⟩ | ⟨d', v', z3, z4, r⟩
        · rw [ed] at z3; cases z3
        · rw [ed] at z3; cases z3
          exact ⟨p, v', rfl, .inl ⟨kv, q, hp, rfl, z4.symm⟩, k g2 H2 (Ext.refl _ _) w2 v' r⟩
  cases ea : fa τ s with
  | exc cl s1 => exact .inl (q1 g H s σ τ Q o (by unfold e2S at h; unfold Mir.e2; rw [ea] at h ⊢; exact h))
  | no => unfold e2S at h; rw [ea] at h; exact h.elim
  | ok x s1 =>
    cases eb : fb τ s1 with
    | exc cl s2 => exact .inl (q1 g H s σ τ Q o (by unfold e2S at h; unfold Mir.e2; rw [ea] at h ⊢; show Pg c g H _ ((fb τ s1).bind _); have h : Pg c g H _ ((fb τ s1).bind _) := h; rw [eb] at h ⊢; exact h))
    | no => unfold e2S at h; rw [ea] at h; have h : Pg c g H _ ((fb τ s1).bind _) := h; rw [eb] at h; exact h.elim
    | ok y s2 =>
      by_cases hd : dctAt s2 x = none
      · by_cases hl : lstAt s2 x = none
        · refine .inl (q1 g H s σ τ Q o ?_)
          unfold e2S at h; unfold Mir.e2
          rw [ea] at h ⊢
          have h : Pg c g H _ ((fb τ s1).bind fun y s => M.opt (ixS s x y) s) := h
          show Pg c g H _ ((fb τ s1).bind fun y => M.opt (ixD x y))
          rw [eb] at h ⊢
          have h : Pg c g H _ (M.opt (ixS s2 x y) s2) := h
          show Pg c g H _ (M.opt (ixD x y) s2)
          have e : ixS s2 x y = ixD x y := by unfold ixS; rw [hd, hl]
          rw [e] at h
          exact h
        · refine .inr (.inr (qa g H s σ τ _ o (Pg.seq h fun x' s1' g1 H1 er e1 w1 h1 v rx0 => qb g1 H1 s1' σ τ _ (o.ext e1 w1) (Pg.seq h1 fun y' s2' g2 H2 er' e2 w2 h2 u ry => ?_))))
          rw [ea] at er; cases er
          rw [eb] at er'; cases er'
          have rx := rx0.extB (H1 := H1) e2
          clear rx0
          obtain ⟨d, ed, k⟩ := h2.opt
          unfold ixS at ed
          rw [hd] at ed
          cases z : lstAt s2 x with
          | none => exact absurd z hl
          | some xs =>
            rw [z] at ed
            have hx : ∃ n, x = .obj n := by
              unfold lstAt at z
              split at z
              · exact ⟨_, rfl⟩
              · cases z
            obtain ⟨n, rfl⟩ := hx
            cases y <;> first | (cases ed; done) | skip
            rename_i i
            have ed : atI xs i = some d := ed
            obtain ⟨p, us, rfl, hp, rs⟩ := lstAt_ok w2 rx z
            obtain ⟨v', z4, r⟩ := rs.atI ed
            exact .inl ⟨p, us, i, v', rfl, ry.int, SqL.of hp, z4, k g2 H2 (Ext.refl _ _) w2 v' r⟩
      · exact .inr (.inl (qd x s1 y s2 ea eb hd))
/-! ### in -/
def inS2 (neg : Bool) (s : Sto) (x y : D) : Option D := match dctAt s y with
  | some kvs => (keyD x).map fun k => .bl (if neg then !(dGet kvs k).isSome else (dGet kvs k).isSome)
  | none => if neg then notInD x y else inD x y
theorem evs_inS {neg : Bool} {fa fb : ED} {ta tb t1 : TE} {f : D → D → Option D} (hf : ∀ x y, (if neg then notInD x y else inD x y) = f x y) (qa : Evs .b c ta fa) (qb : Evs .b c tb fb) (q1 : Evs .o c t1 (e2 f fa fb)) :
    Evs .o c (fun σ H Q => t1 σ H Q ∨ (fun σ H Q => ta σ H fun y H1 => tb σ H1 fun x H2 => ∃ a o, x = .ref a ∧ DGet H2 a y o ∧ Q (.bl (if neg then !o.isSome else o.isSome)) H2) σ H Q) (e2S (inS2 neg) fa fb) := fun g H s σ τ Q o h => by
  cases ea : fa τ s with
  | exc cl s1 => exact .inl (q1 g H s σ τ Q o (by unfold e2S at h; unfold Mir.e2; rw [ea] at h ⊢; exact h))
  | no => unfold e2S at h; rw [ea] at h; exact h.elim
  | ok x s1 =>
    cases eb : fb τ s1 with
    | exc cl s2 => exact .inl (q1 g H s σ τ Q o (by unfold e2S at h; unfold Mir.e2; rw [ea] at h ⊢; show Pg c g H _ ((fb τ s1).bind _); have h : Pg c g H _ ((fb τ s1).bind _) := h; rw [eb] at h ⊢; exact h))
    | no => unfold e2S at h; rw [ea] at h; have h : Pg c g H _ ((fb τ s1).bind _) := h; rw [eb] at h; exact h.elim
    | ok y s2 =>
      by_cases hd : dctAt s2 y = none
      · refine .inl (q1 g H s σ τ Q o ?_)
        unfold e2S at h; unfold Mir.e2
        rw [ea] at h ⊢
        have h : Pg c g H _ ((fb τ s1).bind fun y s => M.opt (inS2 neg s x y) s) := h
        show Pg c g H _ ((fb τ s1).bind fun y => M.opt (f x y))
        rw [eb] at h ⊢
        have h : Pg c g H _ (M.opt (inS2 neg s2 x y) s2) := h
        show Pg c g H _ (M.opt (f x y) s2)
        have e : inS2 neg s2 x y = f x y := by unfold inS2; rw [hd]; exact hf x y
        rw [e] at h
        exact h
      · refine .inr (qa g H s σ τ _ o (Pg.seq h fun x' s1' g1 H1 er e1 w1 h1 v rx0 => qb g1 H1 s1' σ τ _ (o.ext e1 w1) (Pg.seq h1 fun y' s2' g2 H2 er' e2 w2 h2 u ry => ?_)))
        rw [ea] at er; cases er
        rw [eb] at er'; cases er'
        have rx := rx0.extB (H1 := H1) e2
        clear rx0
        obtain ⟨d, ed, k⟩ := h2.opt
        unfold inS2 at ed
        cases z : dctAt s2 y with
        | none => exact absurd z hd
        | some kvs =>
          rw [z] at ed
          cases z2 : keyD x with
          | none => rw [z2] at ed; cases ed
          | some q =>
            rw [z2] at ed
            cases ed
            obtain ⟨p, kv, rfl, hp, kr⟩ := dctAt_ok w2 ry z
            have ey := keyD_ok rx z2
            subst ey
            refine ⟨p, valV kv q, rfl, .inl ⟨kv, q, hp, rfl, rfl⟩, ?_⟩
            have e : (valV kv q).isSome = (dGet kvs q).isSome := by
              rcases kr.val (k := q) with ⟨z3, z4⟩ | ⟨d', v', z3, z4, r⟩
              · rw [z3, z4]; rfl
              · rw [z3, z4]; rfl
            rw [e]
            exact k g2 H2 (Ext.refl _ _) w2 _ (.of (.bl _))
theorem de_inS {a b : Expr} {fa fb : ED} {pos : Pos} (hu : c.X.A.units + 64 < cLine) (ha : DE .b c a fa) (hb : DE .b c b fb) (hm : behindInMarks .In b = false := by first | exact nomark _ | rfl) : DE .o c (.Compare a [.In] [b] pos) (e2S (inS2 false) fa fb) := by
  obtain ⟨t1, p1, q1⟩ := de_cmp (pos := pos) od_in ha hb hm
  obtain ⟨ta, pa, qa⟩ := ha
  obtain ⟨tb, pb, qb⟩ := hb
  exact de_mk (pe_or p1 (pe_cmp (pc_din (by omega) pa pb) hm)) (evs_inS (neg := false) (fun _ _ => rfl) qa qb q1)
theorem de_notInS {a b : Expr} {fa fb : ED} {pos : Pos} (hu : c.X.A.units + 64 < cLine) (ha : DE .b c a fa) (hb : DE .b c b fb) (hm : behindInMarks .NotIn b = false := by first | exact nomark _ | rfl) : DE .o c (.Compare a [.NotIn] [b] pos) (e2S (inS2 true) fa fb) := by
  obtain ⟨t1, p1, q1⟩ := de_cmp (pos := pos) od_notIn ha hb hm
  obtain ⟨ta, pa, qa⟩ := ha
  obtain ⟨tb, pb, qb⟩ := hb
  exact de_mk (pe_or p1 (pe_cmp (pc_dnotin (by omega) pa pb) hm)) (evs_inS (neg := true) (fun _ _ => rfl) qa qb q1)
theorem pc_op {X : Cx} {op : CmpOp} {a b : Expr} {ta tb : TE} {r : R2} (ho : OpR X (compareOp op) r) (ha : PE X a ta) (hb : PE X b tb) : PC X op a b (tOp r ta tb) :=
  ⟨fun pins s σ H Q I h => thn (ha.run pins s σ H _ I h) fun v s1 ⟨x, H1, I1, r1, q1⟩ => thn (hb.run pins s1 σ H1 _ I1 q1) fun u s2 ⟨y, H2, I2, r2, q2⟩ => ho pins s2 σ H2 x y v u _ I2 r1 r2 q2⟩
theorem pc_or {X : Cx} {op : CmpOp} {a b : Expr} {t t' : TE} (h : PC X op a b t) (h' : PC X op a b t') : PC X op a b (fun σ H Q => t σ H Q ∨ t' σ H Q) := ⟨fun pins s σ H Q I q => q.elim (h.run pins s σ H Q I) (h'.run pins s σ H Q I)⟩
theorem evt_tb {k : Kd} {f : ED} {t : TE} (q : Evs k c t f) : Evt c (tB t) (tB1 f) := fun g H s σ τ Q o h => q g H s σ τ _ o (Pg.seq h fun x s1 g1 H1 _ e1 w1 h1 v rx => by
  cases x with
  | bl b => exact ⟨b, rx.bl, Pg.now h1 w1⟩
  | _ => exact h1.elim)
theorem dt_inS {a b : Expr} {fa fb : ED} {pos : Pos} (hu : c.X.A.units + 64 < cLine) (ha : DE .b c a fa) (hb : DE .b c b fb) (hm : behindInMarks .In b = false := by first | exact nomark _ | rfl) : DT c (.Compare a [.In] [b] pos) (tB1 (e2S (inS2 false) fa fb)) := by
  obtain ⟨r, pr, qr⟩ := od_in (c := c)
  obtain ⟨ta, pa, qa⟩ := ha
  obtain ⟨tb, pb, qb⟩ := hb
  exact dt_mk (pt_cmp (pc_or (pc_op pr pa pb) (pc_din (by omega) pa pb)) hm) (evt_tb (evs_inS (neg := false) (fun _ _ => rfl) qa qb (evs_op2 qr qa qb)))
theorem dt_notInS {a b : Expr} {fa fb : ED} {pos : Pos} (hu : c.X.A.units + 64 < cLine) (ha : DE .b c a fa) (hb : DE .b c b fb) (hm : behindInMarks .NotIn b = false := by first | exact nomark _ | rfl) : DT c (.Compare a [.NotIn] [b] pos) (tB1 (e2S (inS2 true) fa fb)) := by
  obtain ⟨r, pr, qr⟩ := od_notIn (c := c)
  obtain ⟨ta, pa, qa⟩ := ha
  obtain ⟨tb, pb, qb⟩ := hb
  exact dt_mk (pt_cmp (pc_or (pc_op pr pa pb) (pc_dnotin (by omega) pa pb)) hm) (evt_tb (evs_inS (neg := true) (fun _ _ => rfl) qa qb (evs_op2 qr qa qb)))
/-! ### calls of built-ins that look at the store -/
def CallS (c : Ctx) (f : Value) (op : Sto → List D → Option D) : Prop := ∃ r, CallR c.X f r ∧ ∀ g H s xs ds d Q, WF c.X.K c.T g H s → RKs .b c.X.K g H H xs ds → op s ds = some d → Wt c g H s d Q → r xs H Q
def orS (f g : Sto → List D → Option D) : Sto → List D → Option D := fun s x => match f s x with
  | some d => some d
  | none => g s x
theorem CallD.s {f : Value} {op : List D → Option D} (h : CallD c f op) : CallS c f (fun _ => op) := by
  obtain ⟨r, p, q⟩ := h
  exact ⟨r, p, fun g H s xs ds d Q w rs e k => q g H s xs ds d Q w rs e k⟩
theorem CallS.or {fn : Value} {f f' : Sto → List D → Option D} (h : CallS c fn f) (h' : CallS c fn f') : CallS c fn (orS f f') := by
  obtain ⟨r, p, q⟩ := h
  obtain ⟨r', p', q'⟩ := h'
  refine ⟨_, p.or p', fun g H s xs ds d Q w rx e k => ?_⟩
  unfold orS at e
  cases z : f s ds with
  | some d' => rw [z] at e; cases e; exact .inl (q g H s xs ds _ Q w rx z k)
  | none => rw [z] at e; exact .inr (q' g H s xs ds d Q w rx e k)
theorem de_callBS {e : Expr} {es : List Expr} {x : Str} {id : String} {op : Sto → List D → Option D} {fs : AD} {p pos : Pos} (ho : CallS c (.builtin id) op) (ha : DA .b c (e :: es) fs) (hm : c.X.mg x = none) (hv : bootBuiltins x = some (.builtin id)) (hg : Gl c.X x := by rfl) (hn : x ≠ "__name__" := by decide) (hdb : (x == ("__debug__" : Str)) = false := by decide)
    (he : starEach (e :: es) c.X.env = (false, eval e c.X.env) :: starEach es c.X.env := by rfl) (hpl : (backTo pos (starEach es c.X.env)).any (·.1) = false := by rfl) : DE .o c (.Call (.Name x p) (e :: es) [] pos) (eNS op fs) := by
  obtain ⟨r, pr, qr⟩ := ho
  obtain ⟨t, pt, qt⟩ := ha
  refine de_mk (pe_callB pr hg hm hv pt hn hdb he hpl) fun g H s σ τ Q o h => qt g H s σ τ _ o (Pg.seq h fun xs s1 g1 H1 _ e1 w1 h1 vs rs => ?_)
  obtain ⟨d, ed, k⟩ := h1.opt
  exact qr g1 H1 s1 vs xs d Q w1 (rs.extB (Ext.refl _ _)) ed fun v' g' H' e' w' r' => k g' H' e' w' v' (r'.ext (Ext.refl _ _) fun p q => e1.fresh q)
theorem RKs.one1 {K : PySem.W.Frag} {g : Gh} {H0 H : Hp} {k : Kd} {xs : List V} {d : D} (h : RKs k K g H0 H xs [d]) : ∃ v, xs = [v] ∧ RK k K g H0 H v d := by
  cases h with
  | cons h r => cases r; exact ⟨_, rfl, h⟩
/-- len of a dict, of a list of the store -/
def dctW (s : Sto) : D → Option (List (Key × D))
  | .obj n => match s[n]? with
    | some (.dct kvs) => some kvs
    | _ => none
  | .dct kvs => some kvs
  | _ => none
theorem dctW_ok {K : PySem.W.Frag} {T : List (Addr × Str)} {g : Gh} {H0 H : Hp} {s : Sto} {v : V} {d : D} {kds : List (Key × D)} (w : WF K T g H s) (r : RK .b K g H0 H v d) (h : dctW s d = some kds) : ∃ a kvs, v = .ref a ∧ H a = some (.dK kvs) ∧ KR K g kvs kds := by
  unfold dctW at h
  split at h
  · rename_i n
    split at h
    · rename_i kvs hs
      cases h
      obtain ⟨a, rfl, hr, ok⟩ := Rep.obj_at w r.rep hs
      cases ok with
      | dct h1 h2 => exact ⟨a, _, rfl, h1, h2⟩
    · cases h
  · cases h
    obtain ⟨a, ks, xs, ds, rfl, e1, h1, hl, rs⟩ := r.dct w
    exact ⟨a, _, rfl, h1, by rw [e1]; exact KR.zip rs⟩
  · cases h
def lenDS (s : Sto) : List D → Option D
  | [d] => (dctW s d).map fun kvs => .int kvs.length
  | _ => none
theorem cs_lenD : CallS c (.builtin "len") lenDS := by
  refine ⟨_, call_lenD, fun g H s xs ds d Q w rs e k => ?_⟩
  unfold lenDS at e
  split at e
  · rename_i d'
    obtain ⟨v, rfl, r⟩ := rs.one1
    cases z : dctW s d' with
    | none => rw [z] at e; cases e
    | some kvs =>
      rw [z] at e
      cases e
      obtain ⟨a, kv, rfl, h1, kr⟩ := dctW_ok w r z
      refine ⟨a, kv, rfl, h1, ?_⟩
      rw [kr.length]
      exact k.here w (.int _)
  · cases e
def lenS : Sto → List D → Option D := orS (fun _ => lenD) lenDS
theorem cs_len : CallS c (.builtin "len") lenS := (CallD.s cd_len).or cs_lenD
/-! ### sorted -/
def insI (i : Int) : List Int → List Int
  | [] => [i]
  | j :: r => if i ≤ j then i :: j :: r else j :: insI i r
def sortI : List Int → List Int
  | [] => []
  | i :: r => insI i (sortI r)
theorem insI_perm (i : Int) : ∀ l : List Int, (insI i l).Perm (i :: l)
  | [] => .refl _
  | j :: r => by
    unfold insI
    split
    · exact .refl _
    · exact ((insI_perm i r).cons j).trans (.swap i j r)
theorem sortI_perm : ∀ l : List Int, (sortI l).Perm l
  | [] => .refl _
  | i :: r => (insI_perm i (sortI r)).trans ((sortI_perm r).cons i)
theorem insI_rises {i : Int} : ∀ {l : List Int}, l.Pairwise (· ≤ ·) → (insI i l).Pairwise (· ≤ ·)
  | [], _ => by unfold insI; exact List.pairwise_singleton _ _
  | j :: r, h => by
    obtain ⟨h1, h2⟩ := List.pairwise_cons.mp h
    unfold insI
    split
    · rename_i hij
      refine List.pairwise_cons.mpr ⟨fun x hx => ?_, h⟩
      rcases List.mem_cons.mp hx with z | z
      · rw [z]; exact hij
      · exact Int.le_trans hij (h1 x z)
    · rename_i hij
      refine List.pairwise_cons.mpr ⟨fun x hx => ?_, insI_rises h2⟩
      rcases List.mem_cons.mp ((insI_perm i r).mem_iff.mp hx) with z | z
      · rw [z]; omega
      · exact h1 x z
theorem sortI_rises : ∀ l : List Int, (sortI l).Pairwise (· ≤ ·)
  | [] => .nil
  | i :: r => insI_rises (sortI_rises r)
theorem sortI_uniq {ys l : List Int} (h : ys.Perm l) (h2 : ys.Pairwise (· ≤ ·)) : ys = sortI l :=
  List.Perm.eq_of_pairwise (fun _ _ _ _ a b => Int.le_antisymm a b) h2 (sortI_rises l) (h.trans (sortI_perm l).symm)
def intKeys : List Key → Option (List Int)
  | [] => some []
  | .inl i :: r => (intKeys r).map (i :: ·)
  | _ => none
theorem intKeys_ok : ∀ {ks : List Key} {is : List Int}, intKeys ks = some is → ks = is.map Sum.inl
  | [], _, h => by cases h; rfl
  | .inl i :: r, is, h => by
    unfold intKeys at h
    cases z : intKeys r with
    | none => rw [z] at h; cases h
    | some js => rw [z] at h; cases h; rw [intKeys_ok z]; rfl
  | .inr _ :: _, _, h => by cases h
theorem Reps.ints {K : PySem.W.Frag} {g : Gh} : ∀ (l : List Int), Reps K g (l.map V.int) (l.map D.int)
  | [] => .nil
  | i :: l => .cons (.int i) (Reps.ints l)
/-- sorted(d), d a dict of fewer than 64 ints -/
def sortDI (s : Sto) : List D → Option D
  | [d] => (dctAt s d).bind fun kvs => (intKeys (kvs.map (·.1))).bind fun is => if is.length < 64 then some (.lst ((sortI is).map D.int)) else none
  | _ => none
theorem cs_sortDI (hc : c.X.calm = true := by rfl) : CallS c (.builtin "sorted") sortDI := by
  refine ⟨_, call_sortedDI hc, fun g H s xs ds d Q w rs e k => ?_⟩
  unfold sortDI at e
  split at e
  · rename_i d'
    obtain ⟨v, rfl, r⟩ := rs.one1
    cases z : dctAt s d' with
    | none => rw [z] at e; cases e
    | some kvs =>
      rw [z] at e
      have e : (intKeys (kvs.map (·.1))).bind _ = _ := e
      cases z2 : intKeys (kvs.map (·.1)) with
      | none => rw [z2] at e; cases e
      | some is =>
        rw [z2] at e
        have e : (if is.length < 64 then some (D.lst ((sortI is).map D.int)) else none) = some d := e
        split at e
        · rename_i hl
          cases e
          obtain ⟨a, kv, rfl, h1, kr⟩ := dctAt_ok w r z
          refine ⟨a, kv, is, rfl, h1, by rw [kr.keys]; exact intKeys_ok z2, hl, fun ys p hp hs hn => ?_⟩
          rw [sortI_uniq hp hs]
          exact k.lst w (Reps.ints _) hn
        · cases e
  · cases e
end
end Mir

set_option Elab.async false
set_option linter.all false
set_option maxRecDepth 100000
set_option maxHeartbeats 4000000
/-! Mir, part J: tables of the top, dict displays, items stored. -/
namespace Mir
open PySem PySem.Spec PyProof.Rows L2
/-! ### a table of the top: text keys, ints -/
structure TabF (K : PySem.W.Frag) (w : World) (mg : Str → Option Value) (x : Str) (kvs : List (Str × Int)) : Prop where
  g : mg x = some (.ref (He.ga K x))
  d : ∃ es n, KDict K w (He.ga K x) es n
  v : ∀ z i, kvs.lookup z = some i → ∃ t, PySem.W.nsIn K (He.ga K x) z = some (some (.int i t))
  n : ∀ z, kvs.lookup z = none → PySem.W.nsIn K (He.ga K x) z = some none
theorem nsIn_none {K : PySem.W.Frag} {P : Params} {a : Addr} {ks : List Str} {z : Str} (h : He.dicW K a = some (He.keysIn P ks)) (hz : z ∉ ks) : PySem.W.nsIn K a z = some none := by
  unfold He.dicW at h
  split at h
  · rename_i c es n sl hl
    split at h
    · have h := Option.some.inj h
      have hk : ∀ e ∈ es.toList, ∃ k t, k ∈ ks ∧ e.key = .str k t := fun e he => by
        have hm : He.keyOf e ∈ He.keysIn P ks := by rw [← h]; exact List.mem_map.mpr ⟨e, he, rfl⟩
        unfold He.keysIn at hm
        obtain ⟨k, hk, e1⟩ := List.mem_map.mp hm
        unfold He.keyOf at e1
        split at e1
        · rename_i y t q
          have e2 := Option.some.inj e1
          obtain ⟨e3, _⟩ := Prod.mk.inj e2
          exact ⟨k, t, hk, by rw [q, e3]⟩
        · cases e1
      unfold PySem.W.nsIn
      rw [hl]
      show (match es.toList.find? (·.key.isStr z) with
        | some e => some (some e.val)
        | none => if es.toList.any (·.refKey) then none else some none) = some none
      have f : es.toList.find? (·.key.isStr z) = none := by
        rw [List.find?_eq_none]
        intro e he q
        obtain ⟨k, t, hk1, hk2⟩ := hk e he
        rw [hk2] at q
        have q : (k == z) = true := q
        exact hz (by rw [← beq_iff_eq.mp q]; exact hk1)
      have r : es.toList.any (·.refKey) = false := by
        rw [List.any_eq_false]
        intro e he q
        obtain ⟨k, t, hk1, hk2⟩ := hk e he
        unfold DictEntry.refKey at q
        rw [hk2] at q
        cases q
      rw [f, r]
      rfl
    · cases h
  · cases h
def tabB (x : Str) (kvs : List (Str × Int)) (K : PySem.W.Frag) : Bool := He.valsB K (He.ga K x) (kvs.map fun p => (p.1, He.Dv.int p.2))
theorem lookup_mem {α : Type} {z : Str} {i : α} : ∀ {kvs : List (Str × α)}, kvs.lookup z = some i → (z, i) ∈ kvs
  | [], h => by cases h
  | (k, v) :: r, h => by
    rw [List.lookup_cons] at h
    cases q : z == k with
    | true => rw [q] at h; cases h; rw [beq_iff_eq.mp q]; exact List.mem_cons_self
    | false => rw [q] at h; exact List.mem_cons_of_mem _ (lookup_mem h)
theorem lookup_none {α : Type} {z : Str} : ∀ {kvs : List (Str × α)}, kvs.lookup z = none → z ∉ kvs.map (·.1)
  | [], _ => by simp
  | (k, v) :: r, h => by
    rw [List.lookup_cons] at h
    cases q : z == k with
    | true => rw [q] at h; cases h
    | false =>
      rw [q] at h
      intro hm
      rcases List.mem_cons.mp hm with e | e
      · rw [e] at q; simp at q
      · exact lookup_none h e
theorem tabF_ok {fa : List He.Fa} {fn : List He.DefD} {ts : List He.Tab} {w : World} {K : PySem.W.Frag} {mg : Str → Option Value} {h : Heap} {x : Str} {kvs : List (Str × Int)} (X : K.In h) (G : h.Ns mainGlobals mg) (hg : (He.Fa.glo x).ok K = true) (c : He.SaysT fa fn ts w K) (i : Nat) (ht : ts[i]? = some ((fun K => He.ga K x), kvs.map (·.1))) (hv : tabB x kvs K = true) : TabF K w mg x kvs := by
  have e : ts.map (fun t => He.dicW K (t.1 K)) = ts.map fun t => some (He.keysIn w.params t.2) := congrArg (fun z : He.AlT => z.2) c
  have e2 : (ts.map fun t => He.dicW K (t.1 K))[i]? = (ts.map fun t => some (He.keysIn w.params t.2))[i]? := by rw [e]
  rw [List.getElem?_map, List.getElem?_map, ht] at e2
  have e3 : He.dicW K (He.ga K x) = some (He.keysIn w.params (kvs.map (·.1))) := Option.some.inj e2
  refine ⟨He.glo_ok X G hg, He.dicW_ok e3, fun z i hz => ?_, fun z hz => nsIn_none e3 (lookup_none hz)⟩
  obtain ⟨u, h1, h2⟩ := He.valsB_ok hv (List.mem_map.mpr ⟨(z, i), lookup_mem hz, rfl⟩)
  obtain ⟨t, rfl⟩ := h2
  exact ⟨t, h1⟩
section
variable {c : Ctx}
def inT (kvs : List (Str × Int)) : D → Option D
  | .str z => some (.bl (kvs.lookup z).isSome)
  | _ => none
theorem de_inT {a : Expr} {x : Str} {kvs : List (Str × Int)} {fa : ED} {p pos : Pos} (F : TabF c.X.K c.X.w c.X.mg x kvs) (ha : DE .b c a fa) (hg : Gl c.X x := by rfl) (hd : (x == ("__debug__" : Str)) = false := by decide) (hm : behindInMarks .In (.Name x p) = false := by first | exact nomark _ | rfl) : DE .o c (.Compare a [.In] [.Name x p] pos) (e1 (inT kvs) fa) := by
  obtain ⟨es, n, D⟩ := F.d
  obtain ⟨t, pt, qt⟩ := ha
  refine de_mk (pe_cmpR (op_in_kd D) pt (pe_glob (v := .ref (He.ga c.X.K x)) hg F.g rfl hd) hm) fun g H s σ τ Q o h => qt g H s σ τ _ o (Pg.seq h fun y s1 g1 H1 _ e1 w1 h1 v rx => ?_)
  obtain ⟨d, ed, k⟩ := h1.opt
  obtain ⟨z, rfl⟩ : ∃ z, y = .str z := by cases y <;> first | exact ⟨_, rfl⟩ | (cases ed; done)
  have ed : inT kvs (.str z) = some d := ed
  unfold inT at ed
  refine Classical.byCases (fun (_ : True) => ?_) (fun h => absurd trivial h)
  · skip
    cases ed
    have ev := rx.str
    subst ev
    cases q : kvs.lookup z with
    | none => exact ⟨z, none, rfl, rfl, F.n z q, k g1 H1 (Ext.refl _ _) w1 _ (.of (by rw [q]; exact .bl _))⟩
    | some i =>
      obtain ⟨t, ht⟩ := F.v z i q
      exact ⟨z, _, rfl, rfl, ht, k g1 H1 (Ext.refl _ _) w1 _ (.of (by rw [q]; exact .bl _))⟩
def ixT (kvs : List (Str × Int)) : D → Option D
  | .str z => (kvs.lookup z).map D.int
  | _ => none
theorem de_ixT {b : Expr} {x : Str} {kvs : List (Str × Int)} {fb : ED} {p pos : Pos} (F : TabF c.X.K c.X.w c.X.mg x kvs) (hb : DE .b c b fb) (hg : Gl c.X x := by rfl) (hd : (x == ("__debug__" : Str)) = false := by decide) (hs : PlainIx b := by intro _ _; rfl) : DE .o c (.Subscript (.Name x p) b pos) (e1 (ixT kvs) fb) := by
  obtain ⟨es, n, D⟩ := F.d
  obtain ⟨t, pt, qt⟩ := hb
  refine de_mk (pe_ix ix_kdict (pe_glob (v := .ref (He.ga c.X.K x)) hg F.g rfl hd) pt hs) fun g H s σ τ Q o h => qt g H s σ τ _ o (Pg.seq h fun y s1 g1 H1 _ e1 w1 h1 v rx => ?_)
  obtain ⟨d, ed, k⟩ := h1.opt
  obtain ⟨z, rfl⟩ : ∃ z, y = .str z := by cases y <;> first | exact ⟨_, rfl⟩ | (cases ed; done)
  have ed : (kvs.lookup z).map Mir.D.int = some d := ed
  refine Classical.byCases (fun (_ : True) => ?_) (fun h => absurd trivial h)
  · skip
    cases q : kvs.lookup z with
    | none => rw [q] at ed; cases ed
    | some i =>
      rw [q] at ed
      cases ed
      have ev := rx.str
      subst ev
      obtain ⟨t, ht⟩ := F.v z i q
      exact ⟨_, z, .int i, rfl, rfl, ⟨es, n, _, D.at_, D.lit, ht, ⟨t, rfl⟩⟩, k g1 H1 (Ext.refl _ _) w1 _ (.of (.int _))⟩
/-! ### dict displays -/
theorem de_dict0 {pos : Pos} : DE .o c (.Dict [] [] pos) (eC (.dct [])) := by
  refine de_mk pe_dnewK fun g H s σ τ Q o h p hp => ?_
  have own : Own c.X.K g (upd H p (.dK [])) (.ref p) (.dct []) := Own.dct (ks := []) (xs := []) (ds := []) (o.wf.gne hp) (fun n => o.wf.rne hp) upd_same rfl .nil
  exact h g _ (Ext.new hp) (o.wf.new hp) (.ref p) (Or.inr ⟨own, p, rfl, hp⟩)
/-- the values of a display with text keys -/
def DP (c : Ctx) (pos : Pos) (keys : List (Option Expr)) (vals : List Expr) (ks : List Str) (f : AD) : Prop := ∃ trs, PPs c.X pos keys vals trs ∧ keys.length = ks.length ∧ keys.all (·.isSome) = true ∧ keys.length = vals.length ∧
  ∀ g H s σ τ (R : List (V × V) → Hp → Prop), Ok c g H s σ τ → Pg c g H (fun ds _ g' H' => ∀ vs, RKs .z c.X.K g' H H' vs ds → vs.length = ks.length → R ((ks.zip vs).map (fun kv => (V.str kv.1, kv.2))) H') (f τ s) → tPairs trs σ H R
theorem dp_nil {pos : Pos} : DP c pos [] [] [] aNil := ⟨[], pps_nil, rfl, rfl, rfl, fun g H s σ τ R o h => Pg.now h o.wf [] .nil rfl⟩
theorem dp_cons {pos : Pos} {keys : List (Option Expr)} {vals : List Expr} {ks : List Str} {v : Expr} {x : Str} {j} {p : Pos} {fv : ED} {fs : AD} (hv : DE .z c v fv) (hr : DP c pos keys vals ks fs) : DP c pos (some (.Constant (.str x) j p) :: keys) (v :: vals) (x :: ks) (aCons fv fs) := by
  obtain ⟨t, pt, qt⟩ := hv
  obtain ⟨trs, pr, l1, l2, l3, qr⟩ := hr
  refine ⟨_, pps_cons pe_str pt pr, by simp [l1], by simp [l2], by simp [l3], fun g H s σ τ R o h => ?_⟩
  show t σ H _
  refine qt g H s σ τ _ o (Pg.seq h fun d s1 g1 H1 _ e1 w1 h1 u ru => ?_)
  refine qr g1 H1 s1 σ τ (fun ps H' => R ((.str x, u) :: ps) H') (o.ext e1 w1) (Pg.seq h1 fun ds s2 g2 H2 _ e2 w2 h2 vs rs hl => ?_)
  exact Pg.now h2 w2 (u :: vs) (.cons (Rep.mono e2.le ru) (rs.ext (Ext.refl _ _) fun p q => e1.fresh q)) (by simp [hl])
def mergeD (kvs : List (Key × D)) : List (Key × D) := kvs.foldl (fun acc kv => dPut acc kv.1 kv.2) []
def eDisp (ks : List Str) (f : AD) : ED := fun τ s => (f τ s).bind fun ds => M.ret (.dct (mergeD ((ks.map Sum.inr).zip ds)))
theorem KR.merge {K : PySem.W.Frag} {g : Gh} : ∀ {more : List (Key × V)} {mored : List (Key × D)} {kvs : List (Key × V)} {kds : List (Key × D)}, KR K g more mored → KR K g kvs kds → KR K g (more.foldl (fun acc kv => putK acc kv.1 kv.2) kvs) (mored.foldl (fun acc kv => dPut acc kv.1 kv.2) kds)
  | _, _, _, _, .nil, q => q
  | _, _, _, _, .cons (k := k) h r, q => by
    have := KR.merge r (KR.put (k := k) h q)
    exact this
theorem de_disp {keys : List (Option Expr)} {vals : List Expr} {ks : List Str} {fs : AD} {pos : Pos} (hp : DP c pos keys vals ks fs) (h0 : keys ≠ [] := by simp) (h15 : keys.length ≤ 15 := by decide) : DE .o c (.Dict keys vals pos) (eDisp ks fs) := by
  obtain ⟨trs, pr, l1, l2, l3, qr⟩ := hp
  refine de_mk (pe_disp pr l2 l3 h0 h15) fun g H s σ τ Q o h p hp => ?_
  have w0 := o.wf.new (o := .dK []) hp
  have e0 : Ext g H g (upd H p (.dK [])) := Ext.new hp
  refine qr g (upd H p (.dK [])) s σ τ _ (o.ext e0 w0) ?_
  unfold eDisp at h
  cases r : fs τ s with
  | exc cl s1 => rw [r] at h; exact fun g1 H1 e1 w1 => h g1 H1 (e0.trans e1) w1
  | no => rw [r] at h; exact h
  | ok ds s1 =>
    rw [r] at h
    intro g1 H1 e1 w1 vs rs hl
    have k1 : H1 p = some (.dK []) := e1.keep p _ upd_same (fun n => o.wf.rne hp) (fun ps => by simp)
    have gp : g1.G p = none := (e1.newG p (by rw [upd_same]; simp)).trans (o.wf.gne hp)
    have rp : ∀ n, g1.r n ≠ some p := fun n q => by
      rcases e1.newR n p q with z | z
      · exact o.wf.rne hp z
      · rw [upd_same] at z; cases z
    refine ⟨k1, (ks.map Sum.inr).zip vs, ?_, ?_, ?_⟩
    · rw [List.zip_map_left, List.map_map]
      refine List.map_congr_left fun q _ => rfl
    · rw [List.length_zip, List.length_map, ← l1]; omega
    · have kr : KR c.X.K g1 (mergeK [] ((ks.map Sum.inr).zip vs)) (mergeD ((ks.map Sum.inr).zip ds)) := KR.merge (KR.zip rs.reps) .nil
      obtain ⟨k', xs', ds', z1, z2, z3, z4⟩ := kr.unzip
      have h : ∀ g' H', Ext g H g' H' → WF c.X.K c.T g' H' s1 → ∀ v, RK .o c.X.K g' H H' v (.dct (mergeD ((ks.map Sum.inr).zip ds))) → Q v H' := h
      refine h g1 _ ((e0.trans e1).mut hp) (w1.mut k1 (.inr ⟨_, rfl⟩) gp rp) (.ref p) (.inr ⟨?_, p, rfl, hp⟩)
      rw [z1, z2]
      exact .dct gp rp upd_same z3 z4
/-! ### o[i] = v in the store -/
theorem PSet.or {X : Cx} {t t' : TSet} (h : PSet X t) (h' : PSet X t') : PSet X (fun o i v H Q => t o i v H Q ∨ t' o i v H Q) := fun pins s σ H o i v ov iv u Q I ro ri rv q => q.elim (h pins s σ H o i v ov iv u Q I ro ri rv) (h' pins s σ H o i v ov iv u Q I ro ri rv)
/-- the store behind x[y] = v -/
def setS (s : Sto) (x y v : D) : Option Sto := match x with
  | .obj n => match s[n]? with
    | some (.dct kvs) => (keyD y).bind fun k => if kvs.length < 16777216 then some (s.set n (.dct (dPut kvs k v))) else none
    | some (.lst xs) => match y with
      | .int i => (ixN xs.length i).map fun j => s.set n (.lst (xs.set j v))
      | _ => none
    | _ => none
  | _ => none
def sSetS (o i v : ED) : SD := fun τ s => (v τ s).bind fun d s => (o τ s).bind fun x s => (i τ s).bind fun y s => match setS s x y d with
  | some s' => .ok (.nx τ) s'
  | none => .no
theorem ds_setS {o i e : Expr} {fo fi f : ED} {pos pos' : Pos} (hu : c.X.A.units + 64 < cLine) (ho : DE .b c o fo) (hi : DE .b c i fi) (he : DE .z c e f) (hs : swapsWithSole [.Subscript o i pos'] e pos.line c.X.env = pure false := by rfl) (hw : swappedStores [.Subscript o i pos'] e c.X.env = pure none := by rfl)
    (h1 : (assignEach [.Subscript o i pos'] c.X.env).map (·.2) = [assign (.Subscript o i pos') c.X.env] := by rfl)
    (ha : ∀ v, assign (.Subscript o i pos') c.X.env v = (do
      let ov ← holding [v] (eval o c.X.env)
      let iv ← holding [v, ov] (eval i c.X.env)
      standAt pos'
      holding [v, ov, iv] (setItem ov iv v)
      release [v, ov, iv] []) := by intro _; rfl) : DS c (.Assign [.Subscript o i pos'] e pos) (sSetS fo fi f) := by
  obtain ⟨t, pt, qt⟩ := he
  obtain ⟨to, po, qo⟩ := ho
  obtain ⟨ti, pi, qi⟩ := hi
  refine ⟨_, ps_asg pt (pg_sub po pi (PSet.or set_list (set_dict (by omega))) ha) hs hw h1, fun g0 H0 g H s σ τ Dn o h => qt g H s σ τ _ o.ok (Ps.seq o h fun d s1 g1 H1 er1 e1 w1 o1 h1 v rv => qo g1 H1 s1 σ τ _ o1.ok (Ps.seq o1 h1 fun x s2 g2 H2 er2 e2 w2 o2 h2 u rx0 => qi g2 H2 s2 σ τ _ o2.ok (Ps.seq o2 h2 fun y s3 g3 H3 er3 e3 w3 o3 h3 z ry => ?_)))⟩
  clear er1 er2 er3
  have rx := rx0.extB (H1 := H2) e3
  have rv3 : Rep c.X.K g3 v d := Rep.mono (e2.le.trans e3.le) rv
  cases hset : setS s3 x y d with
  | none => rw [hset] at h3; exact h3.elim
  | some s' =>
    rw [hset] at h3
    unfold setS at hset
    split at hset
    · rename_i n
      split at hset
      · rename_i kvs hn
        cases hk : keyD y with
        | none => rw [hk] at hset; cases hset
        | some k =>
          rw [hk] at hset
          have hset : (if kvs.length < 16777216 then some (s3.set n (.dct (dPut kvs k d))) else none) = some s' := hset
          split at hset
          · rename_i hl
            cases hset
            obtain ⟨a, rfl, hr, ok⟩ := Rep.obj_at w3 rx.rep hn
            cases ok with
            | dct k1 k2 =>
              have ey := keyD_ok ry hk
              subst ey
              refine .inr ⟨a, _, rfl, DPut.k k1 (by rw [k2.length, sizeLine_eq]; exact hl), ?_⟩
              exact h3 g3 _ σ (Le.refl _) (o3.ext' (Ext.setAt hr) (w3.setAt hn hr (.dct upd_same (k2.put rv3))))
          · cases hset
      · rename_i xs hn
        split at hset
        · rename_i i
          cases hj : ixN xs.length i with
          | none => rw [hj] at hset; cases hset
          | some j =>
            rw [hj] at hset
            cases hset
            obtain ⟨a, rfl, hr, ok⟩ := Rep.obj_at w3 rx.rep hn
            cases ok with
            | @lst us _ k1 k2 =>
              refine .inl ⟨a, us, i, j, rfl, ry.int, k1, by rw [k2.length]; exact hj, ?_⟩
              exact h3 g3 _ σ (Le.refl _) (o3.ext' (Ext.setAt hr) (w3.setAt hn hr (.lst upd_same (k2.set rv3 j))))
        · cases hset
      · cases hset
    · cases hset
end
end Mir

set_option Elab.async false
set_option linter.all false
set_option maxRecDepth 100000
set_option maxHeartbeats 4000000
/-! Mir, part K: try: f(..) / except X: suite. -/
namespace Mir
open PySem PySem.Spec PyProof.Rows L2
theorem takesN_of {X : Cx} {W : WX} (t : L2.Takes X W) : L2N.Takes X W := fun u s' x => by
  obtain ⟨a, B, sI, pins, σ, H, cls, d, e, I, nb, up, sky, na, os, ag, w⟩ := x
  refine t u s' ⟨a, B, sI, pins, σ, H, cls, d, e, I, nb, up, ?_, na, os, ag, w⟩
  have tr : ∀ fl, HandSPX.TracedZ s'.heap B a (L2N.Zn cls d) fl → HandSPX.TracedZ s'.heap B a (Zc cls d) fl := fun fl h => by
    obtain ⟨oe, vs, T, oT, ts, h1, h2, h3⟩ := h
    exact ⟨oe, vs, T, oT, ts, h1, h2.zc, h3⟩
  rcases sky with ⟨h1, h2, h3, oe, vs, h4, h5, h6⟩ | ⟨h1, h2, h3, h4⟩ | ⟨h1, h2, h3, h4⟩
  · exact .inl ⟨h1, h2, h3, oe, vs, h4, h5.zc, h6⟩
  · exact .inr (.inl ⟨h1, h2, h3, tr _ h4⟩)
  · exact .inr (.inr ⟨h1, h2, h3, tr _ h4⟩)
theorem takes0L {X : Cx} : L2.Takes X (fun _ _ _ _ => False) := fun _ _ x => by
  obtain ⟨_, _, _, _, _, _, _, _, _, _, _, _, _, _, _, _, z⟩ := x
  exact z.elim
/-- the same def, where nothing may be raised, in another context of the machine -/
def Ctx.at_ (c : Ctx) (X : Cx) : Ctx := ⟨X, c.T, fun _ _ _ => False, c.O⟩
def rdA (c : Ctx) (f : AD) : TA := fun σ H Q => ∃ g s τ, Ok c g H s σ τ ∧ Pg (c.at_ c.X) g H (fun ds _ g' H' => ∀ vs, RKs .z c.X.K g' H H' vs ds → Q vs H') (f τ s)
def rdS (c : Ctx) (f : SD) : TS := fun D σ H => ∃ g0 H0 g s τ, SOk c g0 H0 g H s σ τ ∧ Ps c g0 H0 g D (match f τ s with | .exc _ _ => .no | r => r)
section
variable {c : Ctx}
theorem SOk.of_at {X' : Cx} {g0 g : Gh} {H0 H : Hp} {s : Sto} {σ : St} {τ : Ev} (hK : X'.K = c.X.K) (o : SOk (c.at_ X') g0 H0 g H s σ τ) : SOk c g0 H0 g H s σ τ := by
  obtain ⟨⟨wf, sl⟩, ext, fr⟩ := o
  have wf : WF X'.K c.T g H s := wf
  have sl : Sl X'.K g H c.O σ τ := sl
  rw [hK] at wf sl
  exact ⟨⟨wf, sl⟩, ext, fr⟩
theorem SOk.to_at {X' : Cx} {g0 g : Gh} {H0 H : Hp} {s : Sto} {σ : St} {τ : Ev} (hK : X'.K = c.X.K) (o : SOk c g0 H0 g H s σ τ) : SOk (c.at_ X') g0 H0 g H s σ τ := by
  obtain ⟨⟨wf, sl⟩, ext, fr⟩ := o
  rw [← hK] at wf sl
  exact ⟨⟨wf, sl⟩, ext, fr⟩
theorem Ps.to_at {X' : Cx} {g0 g : Gh} {H0 : Hp} {D : Ends} {r : R Fl} (hK : X'.K = c.X.K) (h : Ps c g0 H0 g D (match r with | .exc _ _ => .no | r => r)) : Ps (c.at_ X') g0 H0 g D r := by
  cases r with
  | no => exact h
  | exc cl s => exact h.elim
  | ok fl s =>
    cases fl with
    | nx τ => exact fun g' H' σ' l o => h g' H' σ' l (o.of_at hK)
    | bk τ => exact fun g' H' σ' l o => h g' H' σ' l (o.of_at hK)
    | ct τ => exact fun g' H' σ' l o => h g' H' σ' l (o.of_at hK)
    | rt d => exact fun g' H' v e w r => h g' H' v e (by rw [← hK]; exact w) (by rw [← hK]; exact r)
def sTryC (F : FD) (fs : AD) (cl : Str) (q : SD) : SD := fun τ s => (noX (fs τ s)).bind fun xs s1 => match F xs s1 with
  | .ok _ s2 => .ok (.nx τ) s2
  | .exc cl' s2 => if cl' = cl then (match q τ s2 with
    | .exc _ _ => .no
    | r => r) else .no
  | .no => .no
theorem ds_tryCall {e : Expr} {es : List Expr} {x ex : Str} {j k : Nat} {F : FD} {fs : AD} {fq : SD} {b₀ : Stmt} {suite : List Stmt} {p p1 p2 p3 p4 np : Pos} (h : HasX c x j F) (hr : Room k c.X.A) (hcl : c.X.mg ex = some (.ref (He.ga c.X.K ex))) (hexm : PySem.W.exmOne c.X.K (clsV c.X.K ex) (.ref (He.ga c.X.K ex)) = some true)
    (ha : ∀ pn xe, DA .z (c.at_ (c.X.tr pn xe)) (e :: es) fs) (hq : ∀ a pn, DSs (c.at_ (c.X.suite a pn)) (b₀ :: suite) fq) (hjk : j ≤ k := by decide) (hg : Gl c.X x := by rfl) (hge : Gl c.X ex := by rfl) (hdx : (ex == ("__debug__" : Str)) = false := by decide)
    (hst : c.X.stack = c.X.env :: c.X.outer := by rfl) (hfr : c.X.env.frame = some c.X.env.locals := by rfl) (hdb : (x == ("__debug__" : Str)) = false := by decide)
    (he : starEach (e :: es) c.X.env = (false, eval e c.X.env) :: starEach es c.X.env := by rfl) (hpl : (backTo p1 (starEach es c.X.env)).any (·.1) = false := by rfl) (hs : swapsWith (.Call (.Name x p) (e :: es) [] p1) none p2.line c.X.env = pure false := by rfl) :
    DS c (.Try [.Expr (.Call (.Name x p) (e :: es) [] p1) p2] [.ExceptHandler (some (.Name ex np)) none (b₀ :: suite) p3] [] [] p4) (sTryC F fs ex fq) := by
  obtain ⟨f, fd, ps, hm, hk, hb, hf⟩ := h.ex
  refine ⟨_, ps_try_only (X := c.X) (c := .ref (He.ga c.X.K ex)) (Wout := fun _ _ _ _ => False) (tb := fun W => tDrop (tCallS (spOf c.X.K c.T F) (WE W) (rdA c fs))) (ts := fun _ _ _ => rdS c fq) hst hfr ⟨hge, hdx, .inl hcl⟩ takes0L (fun W pn xe tk _ => ?_) (fun a oe cls d pn _ _ => ?_), fun g0 H0 g H s σ τ Dn o h => ?_⟩
  · have pa : PA (c.X.tr pn xe) (e :: es) (rdA c fs) := by
      obtain ⟨t, pt, qt⟩ := ha pn xe
      exact ⟨fun pos pins s σ H Q I h => by
        obtain ⟨g, st, τ, o, h⟩ := h
        exact pt.run pos pins s σ H Q I (qt g H st σ τ Q ⟨o.wf, o.sl⟩ h)⟩
    exact pss_one (ps_expr (pe_callS (X := c.X.tr pn xe) hf (hr.mono hjk) hg hm hk hb (fun σ => L2N.passAt (takesN_of tk) σ) pa hdb he hpl) hs)
  · obtain ⟨t, pt, qt⟩ := hq a ((a, oe) :: pn)
    exact ⟨fun pins s σ H D I h => by
      obtain ⟨g0, H0, g, st, τ, o, h⟩ := h
      exact pt.run pins s σ H D I (qt g0 H0 g H st σ τ D (o.to_at rfl) (h.to_at rfl))⟩
  · unfold sTryC at h
    refine ⟨g, s, τ, o.ok, ?_⟩
    cases ea : fs τ s with
    | exc cl s1 => rw [ea] at h; exact h.elim
    | no => rw [ea] at h; exact h.elim
    | ok xs s1 =>
      rw [ea] at h
      intro g1 H1 e1 w1 vs rs
      refine ⟨g1, s1, xs, w1, rs.reps, ?_⟩
      have h : Ps c g0 H0 g Dn (match F xs s1 with
        | .ok _ s2 => .ok (.nx τ) s2
        | .exc cl' s2 => if cl' = ex then (match fq τ s2 with
          | .exc _ _ => .no
          | r => r) else .no
        | .no => .no) := h
      cases ef : F xs s1 with
      | no => rw [ef] at h; exact h
      | ok d s2 =>
        rw [ef] at h
        intro v g2 H2 e2 w2 r2
        exact h g2 H2 σ (e1.le.trans e2.le) ((o.ext' e1 w1).ext' e2 w2)
      | exc cl s2 =>
        rw [ef] at h
        intro g2 H2 e2 w2
        have h : Ps c g0 H0 g Dn (if cl = ex then (match fq τ s2 with
          | .exc _ _ => .no
          | r => r) else .no) := h
        by_cases hc : cl = ex
        · subst hc
          rw [if_pos rfl] at h
          refine ⟨true, hexm, fun _ a na => ⟨g0, H0, g2, s2, τ, (o.ext' e1 w1).ext' e2 w2, ?_⟩, fun z => Bool.noConfusion z⟩
          exact Ps.mono (e1.le.trans e2.le) h
        · rw [if_neg hc] at h; exact h.elim
end
end Mir

set_option Elab.async false
set_option linter.all false
set_option maxRecDepth 100000
set_option maxHeartbeats 4000000
/-! Mir, part Y: more operations. -/
namespace Mir
open PySem PySem.Spec PyProof.Rows L2
section
variable {c : Ctx}
def strSD : List D → Option D
  | [.str x] => some (.str x)
  | _ => none
theorem cd_strS : CallD c (.type "str") strSD := by
  refine ⟨_, SkE.call_str_str, fun g H s xs ds d Q w rs e k => ?_⟩
  unfold strSD at e
  split at e
  · cases e
    obtain ⟨v, rfl, r⟩ := rs.one
    exact ⟨_, by rw [r.str], k.here w (.str _)⟩
  · cases e
def strAD : List D → Option D := or1 strOfD strSD
theorem cd_strA : CallD c (.type "str") strAD := cd_str.or cd_strS
def find3D : D → List D → Option D
  | .str x, [.str y, .int i] => some (.int (Txt.find3 x y i))
  | _, _ => none
theorem md_find3 : MtD c "str.find" find3D := by
  refine ⟨_, mt_find3, fun g H s x xs dx ds d Q w rx rs e k => ?_⟩
  unfold find3D at e
  split at e
  · cases e
    cases rs with
    | cons r1 rs =>
      cases rs with
      | cons r2 rs =>
        cases rs
        exact ⟨_, _, _, rx.str, by rw [r1.str, r2.int], k.here w (.int _)⟩
  · cases e
end
end Mir

set_option Elab.async false
set_option linter.all false
set_option maxRecDepth 100000
set_option maxHeartbeats 4000000
/-! Mir, part Re: a if x op 1 else o.replace(y, z). -/
namespace Mir
open PySem PySem.Spec PyProof.Rows L2
theorem ptu_cmpR {X : Cx} {a : Expr} {ta : TE} {op : CmpOp} {r : R2} {i : Int} {j : Nat} {p pos : Pos} (ho : OpR X (compareOp op) r) (ha : PE X a ta) (hm : behindInMarks op (.Constant (.int i) j p) = false)
    (pins : List (Addr × Obj)) (s : Shared) (σ : St) (H : Hp) (Q : Bool → Hp → Prop) (I : Inv X pins σ H s) (h : tTest (tOp r ta (tC (.int i))) σ H Q) :
    wpAny (model X.prog X.w) X.A (isTrue (.Compare a [op] [.Constant (.int i) j p] pos) X.env (eval (.Compare a [op] [.Constant (.int i) j p] pos) X.env)) (fun d s' => 1 ≤ s'.toks ∧ TP X pins σ Q d s') X.xe s := by
  refine wpAny_isTrue_Compare1 (thn (ha.run pins s σ H _ I h) fun v s1 ⟨x, H1, I1, r1, q1⟩ => wpAny_Constant_int ?_) hm
  have hw := ho pins { s1 with toks := s1.toks + 1 } σ H1 x (.int i) v (.int i s1.toks) _ (I1.tok _) r1 ⟨_, rfl⟩ q1
  refine wpAny_mono (PySem.wpAny_toks_of (n := 1) (by show 1 ≤ s1.toks + 1; omega) hw) (fun c s3 hq => ?_) fun _ _ z => z.2
  obtain ⟨ht, z, H3, I3, r3, k, e, q3⟩ := hq
  subst e
  cases r3
  exact wpAny_truthy_bool ⟨ht, H3, I3, q3⟩
def replD (y z : Str) : D → Option D
  | .str x => if decide (x.length + (x.length + 1) * z.length ≤ 16777216) then some (.str (Txt.replace x y z)) else none
  | _ => none
section
variable {c : Ctx}
theorem de_ifRepl {k : Kd} {a e o : Expr} {op : CmpOp} {f : D → D → Option D} {fa fe fo : ED} {i : Int} {y z : Str} {j j0 j1 : Nat} {p pos c0 c1 apos cpos ipos : Pos} (ho : OpD c (compareOp op) f) (ha : DE .b c a fa) (he : DE k c e fe) (hoo : DE .b c o fo)
    (hm : behindInMarks op (.Constant (.int i) j p) = false := by first | exact nomark _ | rfl)
    (hyz : (y == z) = false := by decide)
    (hst : starEach [.Constant (.str y) j0 c0, .Constant (.str z) j1 c1] c.X.env = [(false, eval (.Constant (.str y) j0 c0) c.X.env), (false, eval (.Constant (.str z) j1 c1) c.X.env)] := by rfl)
    (hbase : attributeBase o "replace" c.X.env (eval o c.X.env) = eval o c.X.env := by rfl) (hline : (apos.endLine == cpos.line) = true := by rfl) (hk : ∀ g H x H', RK k c.X.K g H H' (.str x) (.str x) := by intro _ _ _ _; first | exact Rep.str _ | exact .of (.str _) | exact .inl (.str _)) :
    DE k c (.IfExp (.Compare a [op] [.Constant (.int i) j p] pos) e (.Call (.Attribute o "replace" apos) [.Constant (.str y) j0 c0, .Constant (.str z) j1 c1] [] cpos) ipos)
      (eIf (tB1 (e2 f fa (eC (.int i)))) fe (e1 (replD y z) fo)) := by
  obtain ⟨r, pr, qr⟩ := ho
  obtain ⟨ta, pa, qa⟩ := ha
  obtain ⟨te, pe, qe⟩ := he
  obtain ⟨to, po, qo⟩ := hoo
  have hb : Evs .b c (tC (.int i)) (eC (.int i)) := by
    have : Evs .o c (tC (.int i)) (eC (.int i)) := evs_c (fun _ _ _ q => q) fun _ => .int i
    exact fun g H s σ τ Q o h => this g H s σ τ Q o (h.imp fun d s1 g1 H1 e1 w1 k v hv => k v hv.ob)
  have ht : Evt c (tTest (tOp r ta (tC (.int i)))) (tB1 (e2 f fa (eC (.int i)))) := evt_test (evs_op2 qr qa hb)
  refine ⟨tIf (tTest (tOp r ta (tC (.int i)))) te (CwR.tReplC to y z), ⟨fun pins s σ H Q I h => ?_⟩, fun g H s σ τ Q o h => ht g H s σ τ _ o (Pg.seq h fun x s1 g1 H1 _ e1 w1 h1 => ?_)⟩
  · refine wpAny_IfExp (wpAny_mono (ptu_cmpR pr pa hm pins s σ H _ I h) (fun d s1 hq => ?_) fun _ _ z => z)
    obtain ⟨h0, H1, I1, q1⟩ := hq
    cases d with
    | true => exact pe.run pins s1 σ H1 Q I1 q1
    | false => exact CwR.pet_replC po hyz hst hbase hline pins s1 σ H1 Q h0 I1 q1
  · cases x with
    | true => rw [if_pos rfl]; exact qe g1 H1 s1 σ τ Q (o.ext e1 w1) (h1.back e1)
    | false =>
      rw [if_neg Bool.false_ne_true]
      refine qo g1 H1 s1 σ τ _ (o.ext e1 w1) (Pg.seq (h1.back e1) fun x s2 g2 H2 hx_ e2 w2 h2 v rx => ?_)
      obtain ⟨d, ed, k⟩ := h2.opt
      clear hx_
      unfold replD at ed
      split at ed
      · rename_i x
        split at ed
        · rename_i hz
          cases ed
          refine ⟨x, rx.str, of_decide_eq_true hz, ?_⟩
          exact k g2 H2 (Ext.refl _ _) w2 _ (hk _ _ _ _)
        · cases ed
      · cases ed
end
end Mir

set_option Elab.async false
set_option linter.all false
set_option maxRecDepth 100000
set_option maxHeartbeats 1000000
/-! Mir, part S: what a mirror computes, told without the store. -/
namespace Mir
open PySem
def V1 (f : ED) (τ : Ev) (d : D) : Prop := ∀ s, f τ s = .ok d s
def VA (f : AD) (τ : Ev) (ds : List D) : Prop := ∀ s, f τ s = .ok ds s
def VT (f : TD) (τ : Ev) (b : Bool) : Prop := ∀ s, f τ s = .ok b s
def VO (f : OD) (τ : Ev) (o : Option Int) : Prop := ∀ s, f τ s = .ok o s
def VS (f : SD) (τ : Ev) (fl : Fl) : Prop := ∀ s, f τ s = .ok fl s
def VF (F : FD) (ds : List D) (d : D) : Prop := ∀ s, F ds s = .ok d s
section
variable {τ τ' : Ev} {d x y : D} {ds xs : List D} {f a b : ED} {fs : AD} {t u : TD}
theorem V1.var {i : Nat} (h : τ[i]? = some (some d)) : V1 (eVar i) τ d := fun s => by unfold eVar; rw [h]; rfl
theorem V1.c : V1 (eC d) τ d := fun _ => rfl
theorem V1.e1 {op : D → Option D} (h : V1 a τ x) (e : op x = some d) : V1 (Mir.e1 op a) τ d := fun s => by unfold Mir.e1; rw [h s]; show M.opt (op x) s = _; rw [e]; rfl
theorem V1.e2 {op : D → D → Option D} (h : V1 a τ x) (k : V1 b τ y) (e : op x y = some d) : V1 (Mir.e2 op a b) τ d := fun s => by
  unfold Mir.e2; rw [h s]; show (b τ s).bind _ = _; rw [k s]; show M.opt (op x y) s = _; rw [e]; rfl
theorem VA.nil : VA aNil τ [] := fun _ => rfl
theorem VA.cons (h : V1 a τ x) (k : VA fs τ xs) : VA (aCons a fs) τ (x :: xs) := fun s => by
  unfold aCons; rw [h s]; show (fs τ s).bind _ = _; rw [k s]; rfl
theorem VA.one (h : V1 a τ x) : VA (aCons a aNil) τ [x] := VA.cons h VA.nil
theorem V1.eN {op : List D → Option D} (h : VA fs τ xs) (e : op xs = some d) : V1 (Mir.eN op fs) τ d := fun s => by unfold Mir.eN; rw [h s]; show M.opt (op xs) s = _; rw [e]; rfl
theorem VA.iN {op : List D → Option (List D)} (h : VA fs τ xs) (e : op xs = some ds) : VA (Mir.iN op fs) τ ds := fun s => by unfold Mir.iN; rw [h s]; show M.opt (op xs) s = _; rw [e]; rfl
theorem VA.lst (h : V1 a τ (.lst xs)) : VA (iLst a) τ xs := fun s => by unfold iLst; rw [h s]; rfl
theorem VA.tpl (h : V1 a τ (.tup xs)) : VA (iTpl a) τ xs := fun s => by unfold iTpl; rw [h s]; rfl
theorem VA.str {z : Str} (h : V1 a τ (.str z)) : VA (iStrD a) τ (z.cps.toList.map fun k => .str ⟨#[k]⟩) := fun s => by unfold iStrD; rw [h s]; rfl
theorem V1.call {F : FD} (h : VA fs τ xs) (k : VF F xs d) : V1 (eCall F fs) τ d := fun s => by unfold eCall; rw [h s]; exact k s
theorem V1.mt {T : String} {op : D → List D → Option D} (h : V1 a τ x) (k : VA fs τ xs) (ht : isTy T x = true) (e : op x xs = some d) : V1 (eMt T op a fs) τ d := fun s => by
  unfold eMt; rw [h s]; show (if isTy T x = true then _ else _) = _; rw [if_pos ht, k s]; show M.opt (op x xs) s = _; rw [e]; rfl
theorem VO.non : VO oNone τ none := fun _ => rfl
theorem VO.som {i : Int} (h : V1 a τ (.int i)) : VO (oSome a) τ (some i) := fun s => by unfold oSome; rw [h s]; rfl
theorem V1.sl {lo hi : OD} {l u : Option Int} (h : V1 a τ x) (k : VO lo τ l) (m : VO hi τ u) (e : slD x l u = some d) : V1 (eSl a lo hi) τ d := fun s => by
  unfold eSl; rw [h s]; show (lo τ s).bind _ = _; rw [k s]; show (hi τ s).bind _ = _; rw [m s]; show M.opt (slD x l u) s = _; rw [e]; rfl
theorem VT.v {v : Bool} (h : V1 a τ (.bl v)) : VT (tB1 a) τ v := fun s => by unfold tB1; rw [h s]; rfl
theorem VT.yes : VT tYesD τ true := fun _ => rfl
theorem VT.not {v : Bool} (h : VT t τ v) : VT (tNotD t) τ (!v) := fun s => by unfold tNotD; rw [h s]; rfl
theorem VT.andF (h : VT t τ false) : VT (tAndD t u) τ false := fun s => by unfold tAndD; rw [h s]; rfl
theorem VT.andT {v : Bool} (h : VT t τ true) (k : VT u τ v) : VT (tAndD t u) τ v := fun s => by unfold tAndD; rw [h s]; exact k s
theorem VT.orT (h : VT t τ true) : VT (tOrD t u) τ true := fun s => by unfold tOrD; rw [h s]; rfl
theorem VT.orF {v : Bool} (h : VT t τ false) (k : VT u τ v) : VT (tOrD t u) τ v := fun s => by unfold tOrD; rw [h s]; exact k s
theorem V1.andF (h : V1 a τ (.bl false)) : V1 (eAndD a b) τ (.bl false) := fun s => by unfold eAndD; rw [h s]; rfl
theorem V1.andT (h : V1 a τ (.bl true)) (k : V1 b τ d) : V1 (eAndD a b) τ d := fun s => by unfold eAndD; rw [h s]; exact k s
theorem V1.orT (h : V1 a τ (.bl true)) : V1 (eOrD a b) τ (.bl true) := fun s => by unfold eOrD; rw [h s]; rfl
theorem V1.orF (h : V1 a τ (.bl false)) (k : V1 b τ d) : V1 (eOrD a b) τ d := fun s => by unfold eOrD; rw [h s]; exact k s
theorem V1.ifT (h : VT t τ true) (k : V1 a τ d) : V1 (eIf t a b) τ d := fun s => by unfold eIf; rw [h s]; exact k s
theorem V1.ifF (h : VT t τ false) (k : V1 b τ d) : V1 (eIf t a b) τ d := fun s => by unfold eIf; rw [h s]; exact k s
theorem V1.told {errs : List Str} (h : V1 a τ d) : V1 (eTold errs a) τ d := fun s => by unfold eTold; rw [h s]
/-! ### statements -/
variable {p q : SD} {fl : Fl}
theorem VS.next : VS sNext τ (.nx τ) := fun _ => rfl
theorem VS.seq (h : VS p τ (.nx τ')) (k : VS q τ' fl) : VS (sSeq p q) τ fl := fun s => by unfold sSeq; rw [h s]; exact k s
theorem VS.seqR (h : VS p τ (.rt d)) : VS (sSeq p q) τ (.rt d) := fun s => by unfold sSeq; rw [h s]; rfl
theorem VS.set {i : Nat} (h : V1 a τ d) : VS (sSet i a) τ (.nx (τ.set i (some d))) := fun s => by unfold sSet; rw [h s]; rfl
theorem VS.setO {i : Nat} (h : V1 a τ d) (e : isCt d = true) : VS (sSetO i a) τ (.nx (τ.set i (some d))) := fun s => by unfold sSetO; rw [h s]; show (if isCt d = true then M.ret (Fl.nx (τ.set i (some d))) else fun _ => .no) s = _; rw [if_pos e]; rfl
theorem VS.ex (h : V1 a τ d) : VS (sExpr a) τ (.nx τ) := fun s => by unfold sExpr; rw [h s]; rfl
theorem VS.ret (h : V1 a τ d) : VS (sRet a) τ (.rt d) := fun s => by unfold sRet; rw [h s]; rfl
theorem VS.ifT (h : VT t τ true) (k : VS p τ fl) : VS (sIf t p q) τ fl := fun s => by unfold sIf; rw [h s]; exact k s
theorem VS.ifF (h : VT t τ false) (k : VS q τ fl) : VS (sIf t p q) τ fl := fun s => by unfold sIf; rw [h s]; exact k s
theorem VS.app {i : Nat} (h : τ[i]? = some (some (.lst xs))) (k : V1 a τ d) (hz : small (xs.length + 1) = true) : VS (sApp i a) τ (.nx (τ.set i (some (.lst (xs ++ [d]))))) := fun s => by
  unfold sApp; rw [h]; show (a τ s).bind _ = _; rw [k s]; show (if small (xs.length + 1) = true then M.ret (Fl.nx (τ.set i (some (.lst (xs ++ [d]))))) else fun _ => .no) s = _; rw [if_pos hz]; rfl
theorem VS.asg {tg : D → Ev → Option Ev} (h : V1 a τ d) (e : tg d τ = some τ') : VS (sAsg a tg) τ (.nx τ') := fun s => by unfold sAsg; rw [h s]; show (match tg d τ with | some τ1 => M.ret (Fl.nx τ1) | none => fun _ => .no) s = _; rw [e]; rfl
theorem VS.setI {i k : Nat} {j : Int} (h : V1 a τ d) (hx : τ[i]? = some (some (.lst xs))) (hj : V1 b τ (.int j)) (e : L2.ixN xs.length j = some k) : VS (sSetI i b a) τ (.nx (τ.set i (some (.lst (xs.set k d))))) := fun s => by
  unfold sSetI; rw [h s]; show (match τ[i]? with | some (some (.lst xs)) => _ | _ => _) = _; rw [hx]; show (b τ s).bind _ = _; rw [hj s]
  show (match L2.ixN xs.length j with | some k => M.ret (Fl.nx (τ.set i (some (.lst (xs.set k d))))) | none => fun _ => .no) s = _; rw [e]; rfl
theorem VF.mk {np nN : Nat} (hl : ds.length = np) (h : VS p (ds.map some ++ List.replicate (nN - np) none) (.rt d)) : VF (fnM np nN p) ds d := fun s => by unfold fnM; rw [if_pos hl, h s]; rfl
theorem VF.mkN {np nN : Nat} (hl : ds.length = np) (h : VS p (ds.map some ++ List.replicate (nN - np) none) (.nx τ)) : VF (fnM np nN p) ds .non := fun s => by unfold fnM; rw [if_pos hl, h s]; rfl
/-! ### loops -/
theorem forGo_inv {tg : D → Ev → Option Ev} {b : SD} : ∀ (ds : List D) (I : Nat → Ev → Prop) (τ : Ev), I 0 τ →
    (∀ i d τ, ds[i]? = some d → I i τ → ∃ τ1 τ2, tg d τ = some τ1 ∧ (VS b τ1 (.nx τ2) ∨ VS b τ1 (.ct τ2)) ∧ I (i + 1) τ2) → ∃ τ', VS (forGo tg b ds) τ (.nx τ') ∧ I ds.length τ'
  | [], I, τ, h0, _ => ⟨τ, fun _ => rfl, h0⟩
  | d :: ds, I, τ, h0, hs => by
    obtain ⟨τ1, τ2, e1, hb, h1⟩ := hs 0 d τ rfl h0
    obtain ⟨τ', h2, h3⟩ := forGo_inv ds (fun i => I (i + 1)) τ2 h1 fun i d τ hd hi => hs (i + 1) d τ hd hi
    refine ⟨τ', fun s => ?_, h3⟩
    unfold forGo
    rw [e1]
    show (b τ1 s).bind _ = _
    rcases hb with hb | hb
    · rw [hb s]; exact h2 s
    · rw [hb s]; exact h2 s
theorem VS.for_ {it : AD} {tg : D → Ev → Option Ev} {b : SD} (I : Nat → Ev → Prop) (hi : VA it τ ds) (h0 : I 0 τ)
    (hs : ∀ i d τ, ds[i]? = some d → I i τ → ∃ τ1 τ2, tg d τ = some τ1 ∧ (VS b τ1 (.nx τ2) ∨ VS b τ1 (.ct τ2)) ∧ I (i + 1) τ2) : ∃ τ', VS (sFor it tg b) τ (.nx τ') ∧ I ds.length τ' := by
  obtain ⟨τ', h1, h2⟩ := forGo_inv ds I τ h0 hs
  exact ⟨τ', fun s => by unfold sFor; rw [hi s]; exact h1 s, h2⟩
theorem loopW_inv {t : TD} {b : SD} {I : Nat → Ev → Prop} {Post : Fl → Prop} (hs : ∀ m τ, I m τ → (VT t τ false ∧ Post (.nx τ)) ∨ (VT t τ true ∧ ((∃ d, VS b τ (.rt d) ∧ Post (.rt d)) ∨ ∃ τ' m', VS b τ (.nx τ') ∧ m' < m ∧ I m' τ'))) :
    ∀ (n m : Nat) (τ : Ev), m < n → I m τ → ∃ fl, VS (loopW t b n) τ fl ∧ Post fl
  | 0, m, τ, hm, _ => absurd hm (Nat.not_lt_zero _)
  | n + 1, m, τ, hm, hi => by
    rcases hs m τ hi with ⟨h1, h2⟩ | ⟨h1, ⟨d, h2, h3⟩ | ⟨τ', m', h2, h3, h4⟩⟩
    · exact ⟨_, fun s => by unfold loopW; rw [h1 s]; rfl, h2⟩
    · exact ⟨_, fun s => by unfold loopW; rw [h1 s]; show (b τ s).bind _ = _; rw [h2 s]; rfl, h3⟩
    · obtain ⟨fl, h5, h6⟩ := loopW_inv hs n m' τ' (by omega) h4
      exact ⟨fl, fun s => by unfold loopW; rw [h1 s]; show (b τ s).bind _ = _; rw [h2 s]; exact h5 s, h6⟩
theorem VS.while_ {t : TD} {b : SD} {I : Nat → Ev → Prop} {Post : Fl → Prop} (hs : ∀ m τ, I m τ → (VT t τ false ∧ Post (.nx τ)) ∨ (VT t τ true ∧ ((∃ d, VS b τ (.rt d) ∧ Post (.rt d)) ∨ ∃ τ' m', VS b τ (.nx τ') ∧ m' < m ∧ I m' τ')))
    {m : Nat} (hm : m < 1000000) (hi : I m τ) : ∃ fl, VS (sWhile t b) τ fl ∧ Post fl := loopW_inv hs fuel m τ hm hi
theorem lcGo_v {tg : D → Ev → Option Ev} {ts : TD} {el : ED} {τ : Ev} (p : D → Bool) (f : D → D) : ∀ ds : List D, (∀ d ∈ ds, ∃ τ1, tg d τ = some τ1 ∧ VT ts τ1 (p d) ∧ (p d = true → V1 el τ1 (f d))) → ∀ s, lcGo tg ts el τ ds s = .ok ((ds.filter p).map f) s
  | [], _, _ => rfl
  | d :: ds, h, s => by
    obtain ⟨τ1, e1, h1, h2⟩ := h d List.mem_cons_self
    have ih := lcGo_v p f ds (fun d hd => h d (List.mem_cons_of_mem _ hd))
    unfold lcGo
    rw [e1]
    show (ts τ1 s).bind _ = _
    rw [h1 s]
    cases hp : p d with
    | true =>
      show (el τ1 s).bind _ = _
      rw [h2 hp s]
      show (lcGo tg ts el τ ds s).bind _ = _
      rw [ih s, List.filter_cons, if_pos hp]
      rfl
    | false =>
      show lcGo tg ts el τ ds s = _
      rw [ih s, List.filter_cons, if_neg (by rw [hp]; exact Bool.false_ne_true)]
theorem V1.lc {it : AD} {tg : D → Ev → Option Ev} {ts : TD} {el : ED} {vs : List Nat} (p : D → Bool) (f : D → D) (hi : VA it τ ds) (hz : small ds.length = true) (h : ∀ d ∈ ds, ∃ τ1, tg d (wipeD τ vs) = some τ1 ∧ VT ts τ1 (p d) ∧ (p d = true → V1 el τ1 (f d))) :
    V1 (eLc it tg ts el vs) τ (.lst ((ds.filter p).map f)) := fun s => by
  unfold eLc; rw [hi s]; show (if small ds.length = true then fun s => (lcGo tg ts el (wipeD τ vs) ds s).bind fun ys => M.ret (D.lst ys) else fun _ => .no) s = _; rw [if_pos hz]; show (lcGo tg ts el (wipeD τ vs) ds s).bind _ = _; rw [lcGo_v p f ds h s]; rfl
theorem V1.lc0 {it : AD} {tg : D → Ev → Option Ev} {ts : TD} {el : ED} {vs : List Nat} (p : D → Bool) (f : D → D) (hi : VA it τ ds) (hz : small ds.length = true) (h : ∀ d ∈ ds, ∃ τ1, tg d (wipeD τ vs) = some τ1 ∧ VT ts τ1 (p d) ∧ (p d = true → V1 el τ1 (f d))) :
    V1 (eLc0 it tg ts el vs) τ (.lst ((ds.filter p).map f)) := fun s => by
  unfold eLc0; rw [hi s]; show (if small ds.length = true then fun s => noX ((lcGo tg ts el (wipeD τ vs) ds s).bind fun ys => M.ret (D.lst ys)) else fun _ => .no) s = _; rw [if_pos hz]; show noX ((lcGo tg ts el (wipeD τ vs) ds s).bind _) = _; rw [lcGo_v p f ds h s]; rfl
theorem filter_yes : ∀ l : List D, l.filter (fun _ => true) = l
  | [] => rfl
  | d :: l => by rw [List.filter_cons, if_pos rfl, filter_yes l]
/-- .. without a test -/
theorem V1.lcM {it : AD} {tg : D → Ev → Option Ev} {el : ED} {vs : List Nat} (f : D → D) (hi : VA it τ ds) (hz : small ds.length = true) (h : ∀ d ∈ ds, ∃ τ1, tg d (wipeD τ vs) = some τ1 ∧ V1 el τ1 (f d)) : V1 (eLc it tg tYesD el vs) τ (.lst (ds.map f)) := by
  have := V1.lc (ts := tYesD) (fun _ => true) f hi hz fun d hd => by
    obtain ⟨τ1, e, k⟩ := h d hd
    exact ⟨τ1, e, .yes, fun _ => k⟩
  rwa [filter_yes] at this
theorem V1.lc0M {it : AD} {tg : D → Ev → Option Ev} {el : ED} {vs : List Nat} (f : D → D) (hi : VA it τ ds) (hz : small ds.length = true) (h : ∀ d ∈ ds, ∃ τ1, tg d (wipeD τ vs) = some τ1 ∧ V1 el τ1 (f d)) : V1 (eLc0 it tg tYesD el vs) τ (.lst (ds.map f)) := by
  have := V1.lc0 (ts := tYesD) (fun _ => true) f hi hz fun d hd => by
    obtain ⟨τ1, e, k⟩ := h d hd
    exact ⟨τ1, e, .yes, fun _ => k⟩
  rwa [filter_yes] at this
end
end Mir

set_option Elab.async false
set_option linter.all false
set_option maxRecDepth 100000
set_option maxHeartbeats 1000000
/-! Mir, part T: the operations at plain data; the drawing of numbers. -/
namespace Mir
open PySem SX
theorem o_add (i j : Int) : addDT (.int i) (.int j) = some (.int (i + j)) := rfl
theorem o_mod {i j : Int} (h : 0 < j) : modI (.int i) (.int j) = some (.int (i % j)) := by
  show ((if decide (0 < j) = true then some (i % j) else none).map D.int) = _
  rw [if_pos (decide_eq_true h)]; rfl
theorem o_div {i j : Int} (h : divOk j = true) : fdivI (.int i) (.int j) = some (.int (i / j)) := by
  show ((if divOk j = true then some (i / j) else none).map D.int) = _
  rw [if_pos h]; rfl
theorem o_mul {i j : Int} (h : mulOk i j = true) : mulD (.int i) (.int j) = some (.int (i * j)) := by
  have e : mulI (.int i) (.int j) = some (.int (i * j)) := by
    show ((if mulOk i j = true then some (i * j) else none).map D.int) = _
    rw [if_pos h]; rfl
  unfold mulD orO
  rw [e]
theorem mulOk_l {i j : Int} (h1 : -(2 ^ 64) < i) (h2 : i < 2 ^ 64) : mulOk i j = true := by
  unfold mulOk
  rw [decide_eq_true h1, decide_eq_true h2]
  rfl
theorem mulOk_r {i j : Int} (h1 : -(2 ^ 64) < j) (h2 : j < 2 ^ 64) : mulOk i j = true := by
  unfold mulOk
  rw [decide_eq_true h1, decide_eq_true h2]
  simp
theorem log2_lt {n k : Nat} (h : n < 2 ^ k) (hk : 0 < k) : n.log2 < k := by
  by_cases z : n = 0
  · subst z; simpa using hk
  · exact (Nat.log2_lt z).mpr h
theorem mulOk_b {i j : Int} (h1 : 0 ≤ i) (h2 : i < 2 ^ 250) (h3 : 0 ≤ j) (h4 : j < 2 ^ 250) : mulOk i j = true := by
  have a : i.natAbs.log2 < 250 := log2_lt (by omega) (by decide)
  have b : j.natAbs.log2 < 250 := log2_lt (by omega) (by decide)
  unfold mulOk
  have c : decide (i.natAbs.log2 + j.natAbs.log2 < 1000000) = true := decide_eq_true (by omega)
  rw [c]
  simp
theorem orO_l {α β : Type} {f g : α → β → Option D} {x : α} {y : β} {d : D} (h : f x y = some d) : orO f g x y = some d := by unfold orO; rw [h]
theorem orO_r {α β : Type} {f g : α → β → Option D} {x : α} {y : β} {d : D} (h : f x y = none) (k : g x y = some d) : orO f g x y = some d := by unfold orO; rw [h]; exact k
theorem small_of {n : Nat} (h : n ≤ 16777216) : small n = true := decide_eq_true h
theorem o_cat {a b : List Nat} (h : a.length + b.length ≤ 16777216) : addDT (.str (S a)) (.str (S b)) = some (.str (S (a ++ b))) := by
  have e : addS (.str (S a)) (.str (S b)) = some (.str (S (a ++ b))) := by
    show (if small ((S a).length + (S b).length) = true then some (D.str (S a ++ S b)) else none) = _
    rw [if_pos (small_of (by rw [S_len, S_len]; exact h)), S_cat]
  exact orO_l (orO_r rfl (orO_l e))
theorem o_catL {xs ys : List D} (h : xs.length + ys.length ≤ 16777216) : addDT (.lst xs) (.lst ys) = some (.lst (xs ++ ys)) := by
  have e : addL (.lst xs) (.lst ys) = some (.lst (xs ++ ys)) := by
    show (if small (xs.length + ys.length) = true then some (D.lst (xs ++ ys)) else none) = _
    rw [if_pos (small_of h)]
  exact orO_l (orO_r rfl (orO_r rfl e))
/-- xs[i] -/
theorem atI_get {α : Type} {xs : List α} {i : Int} (h0 : 0 ≤ i) (h : i < xs.length) : L2.atI xs i = some (xs[i.toNat]'(by omega)) := by
  unfold L2.atI L2.ixN
  rw [if_pos h0, if_pos h]
  exact List.getElem?_eq_getElem (by omega)
theorem atI_last {α : Type} {xs : List α} {x : α} : L2.atI (xs ++ [x]) (-1) = some x := by
  unfold L2.atI L2.ixN
  rw [if_neg (by decide), if_pos (by simp; omega)]
  show (xs ++ [x])[(-1 + ((xs ++ [x]).length : Int)).toNat]? = some x
  rw [show (-1 + ((xs ++ [x]).length : Int)).toNat = xs.length by simp; omega]
  simp
theorem o_ix {xs : List D} {i : Int} (h0 : 0 ≤ i) (h : i < xs.length) : ixD (.lst xs) (.int i) = some (xs[i.toNat]'(by omega)) := atI_get h0 h
theorem o_ixE {xs : List D} {i : Int} (h0 : 0 ≤ i) (h : i < xs.length) : ∃ d, d ∈ xs ∧ ixD (.lst xs) (.int i) = some d := ⟨_, List.getElem_mem _, o_ix h0 h⟩
theorem o_ixS {l : List Nat} {i : Nat} (h : i < l.length) (hz : l.length ≤ 16777216) : ixD (.str (S l)) (.int i) = some (.str (S [l[i]])) := by
  show (if small (S l).length = true then (L2.atI (S l).cps.toList (i : Int)).map (fun k => D.str ⟨#[k]⟩) else none) = _
  rw [if_pos (small_of (by rw [S_len]; exact hz))]
  have e : L2.atI l (i : Int) = some l[i] := by
    rw [atI_get (by omega) (by omega)]
    rfl
  show (L2.atI l (i : Int)).map _ = _
  rw [e]
  rfl
theorem o_len {l : List Nat} (hz : l.length ≤ 16777216) : lenD [.str (S l)] = some (.int l.length) := by
  show (if small (S l).length = true then some (D.int (S l).length) else none) = _
  rw [S_len, if_pos (small_of hz)]
theorem o_to {l : List Nat} {i : Nat} (hz : l.length ≤ 16777216) : slD (.str (S l)) none (some (i : Int)) = some (.str (S (l.take i))) := by
  show (if small (S l).length = true then some (D.str (L2.cutS (S l) none (some (i : Int)))) else none) = _
  rw [if_pos (small_of (by rw [S_len]; exact hz))]
  unfold L2.cutS
  rw [HT.sIx_nat, HT.sIx_none, S_len]
  show some (D.str (S ((l.drop 0).take (min i l.length - 0)))) = _
  rw [List.drop_zero, Nat.sub_zero, ← List.take_eq_take_min]
theorem o_from {l : List Nat} {i : Nat} (hz : l.length ≤ 16777216) : slD (.str (S l)) (some (i : Int)) none = some (.str (S (l.drop i))) := by
  show (if small (S l).length = true then some (D.str (L2.cutS (S l) (some (i : Int)) none)) else none) = _
  rw [if_pos (small_of (by rw [S_len]; exact hz))]
  unfold L2.cutS
  rw [HT.sIx_nat, HT.sIx_none, S_len]
  show some (D.str (S ((l.drop (min i l.length)).take (l.length - min i l.length)))) = _
  have e : l.drop (min i l.length) = l.drop i := by
    by_cases h : i ≤ l.length
    · rw [Nat.min_eq_left h]
    · rw [Nat.min_eq_right (by omega), List.drop_length, List.drop_eq_nil_of_le (by omega)]
  rw [e, List.take_of_length_le (by rw [List.length_drop]; omega)]
theorem o_eq {a b : List Nat} : eqD (.str (S a)) (.str (S b)) = some (.bl (decide (a = b))) := by
  have e : eqS id (.str (S a)) (.str (S b)) = some (.bl (decide (a = b))) := by
    show some (D.bl (decide (L2.V.str (S a) = L2.V.str (S b)))) = _
    congr 2
    exact decide_eq_decide.mpr ⟨fun h => S_inj (L2.V.str.inj h), fun h => by rw [h]⟩
  unfold eqD orO
  rw [e]
theorem o_ne {a b : List Nat} : neD (.str (S a)) (.str (S b)) = some (.bl (!decide (a = b))) := by
  have e : eqS not (.str (S a)) (.str (S b)) = some (.bl (!decide (a = b))) := by
    show some (D.bl (!decide (L2.V.str (S a) = L2.V.str (S b)))) = _
    congr 3
    exact decide_eq_decide.mpr ⟨fun h => S_inj (L2.V.str.inj h), fun h => by rw [h]⟩
  unfold neD orO
  rw [e]
theorem o_in1 {c : Nat} {l : List Nat} : inD (.str (S [c])) (.str (S l)) = some (.bl (decide (c ∈ l))) := by
  have e : inS (.str (S [c])) (.str (S l)) = some (.bl (decide (c ∈ l))) := by
    show some (D.bl (!(Builtin.Str.occurrences (S l) (S [c]) 0 (S l).length 1).isEmpty)) = _
    rw [in_one]
  unfold inD orO
  rw [e]
theorem o_le1 {a b : Nat} : leD (.str (S [a])) (.str (S [b])) = some (.bl (decide (a ≤ b))) := by
  have e : leS (.str (S [a])) (.str (S [b])) = some (.bl (decide (a ≤ b))) := by
    show some (D.bl (!decide ([b] < [a]))) = _
    congr 2
    rw [StrLaws.lt_cons_cons, StrLaws.lt_nil_nil, Bool.and_false, Bool.or_false]
    by_cases h : a ≤ b
    · rw [decide_eq_true h, decide_eq_false (by omega)]; rfl
    · rw [decide_eq_false h, decide_eq_true (by omega)]; rfl
  exact orO_r rfl e
theorem o_ord {c : Nat} : ordD [.str (S [c])] = some (.int c) := rfl
theorem strs_map (ps : List (List Nat)) : strs' (ps.map fun p => D.str (S p)) = some (ps.map S) := by
  induction ps with
  | nil => rfl
  | cons p ps ih =>
    show (strs' (ps.map fun p => D.str (S p))).map (S p :: ·) = _
    rw [ih]
    rfl
theorem o_join {sep : List Nat} {ps : List (List Nat)} (h : (ps.map (·.length)).sum + ps.length * sep.length ≤ 16777216) : joinD (.str (S sep)) [.lst (ps.map fun p => D.str (S p))] = some (.str (S (TL.joinL sep ps))) := by
  show (match strs' (ps.map fun p => D.str (S p)) with
    | some ys => if decide ((ys.map (fun y : Str => y.length)).sum + ys.length * (S sep).length ≤ 16777216) = true then some (D.str (Txt.join (S sep) ys)) else none
    | none => none) = _
  rw [strs_map]
  show (if decide (((ps.map S).map (·.length)).sum + (ps.map S).length * (S sep).length ≤ 16777216) = true then some (D.str (Txt.join (S sep) (ps.map S))) else none) = _
  rw [lens, List.length_map, S_len, if_pos (decide_eq_true h), join_S]
theorem o_split {l : List Nat} {c : Nat} (hc : c < 256) (hz : l.length + 2 ≤ 16777216) : splitD (.str (S l)) [.str (S [c])] = some (.lst ((TL.spl [c] 0 [] l).map fun p => D.str (S p))) := by
  show (if ((S [c]).length != 0 && small ((S l).length + 2)) = true then some (D.lst ((Txt.split (S l) (S [c])).map D.str)) else none) = _
  rw [S_len l, small_of hz, split_S (by simp) (by simpa using hc), if_pos (by rw [S_len]; rfl), List.map_map]
  rfl
def drawn (cell k : Int) : Int :=
  (fun m : Int => (m % 18446744073709551557 + 1) * (m / 18446744073709551557 + 1) * m % 340282366920938463463374607431768211507) ((fun m : Int => m * m % 340282366920938463463374607431768211297) ((cell * 6364136223846793005 + (k + 1) * 1442695040888963407) % 340282366920938463463374607431768211507))
theorem drawn_lo (cell k : Int) : 0 ≤ drawn cell k := Int.emod_nonneg _ (by decide)
theorem drawn_hi (cell k : Int) : drawn cell k < 340282366920938463463374607431768211507 := Int.emod_lt_of_pos _ (by decide)
end Mir
namespace Mir
open PySem SX
/-! ### == of what is not flat -/
theorem toPs_ints (l : List Int) : toPs (l.map D.int) = some (l.map PyData.int) := by
  induction l with
  | nil => rfl
  | cons a l ih =>
    show (match toP (.int a), toPs (l.map D.int) with | some p, some ps => some (p :: ps) | _, _ => none) = _
    rw [ih]
    rfl
theorem toPs_strs (l : List (List Nat)) : toPs (l.map fun p => D.str (S p)) = some (l.map fun p => PyData.str (S p)) := by
  induction l with
  | nil => rfl
  | cons a l ih =>
    show (match toP (.str (S a)), toPs (l.map fun p => D.str (S p)) with | some p, some ps => some (p :: ps) | _, _ => none) = _
    rw [ih]
    rfl
theorem lay_ints (l : List Int) : PyData.canLayAll0 (l.map PyData.int) = true ∧ PyData.depthAll (l.map PyData.int) = 0 := by
  induction l with
  | nil => exact ⟨by simp [PyData.canLayAll0], by simp [PyData.depthAll]⟩
  | cons a l ih => exact ⟨by simp [PyData.canLayAll0, PyData.canLay0, ih.1], by simp [PyData.depthAll, PyData.depth, ih.2]⟩
theorem eqP_of {f : Bool → Bool} {x y : D} {u v : PyData} (h1 : toP x = some u) (h2 : toP y = some v) (s1 : SeqAt.shaped u = true) (s2 : SeqAt.shaped v = true) : eqP f x y = some (.bl (f (PyData.eqv u v))) := by
  unfold eqP
  rw [h1, h2]
  show (if (SeqAt.shaped u && SeqAt.shaped v) = true then _ else _) = _
  rw [s1, s2]
  rfl
theorem eqv_nil (xs : List PyData) : PyData.eqv (.list xs) (.list []) = xs.isEmpty := by
  cases xs with
  | nil => simp [PyData.eqv, PyData.eqvAll]
  | cons x xs => simp [PyData.eqv, PyData.eqvAll]
theorem shaped_nil : SeqAt.shaped (.list []) = true := by decide +kernel
theorem shaped_list {xs : List PyData} (h1 : PyData.canLayAll0 xs = true) (h2 : PyData.depthAll xs ≤ 63) : SeqAt.shaped (.list xs) = true := by
  unfold SeqAt.shaped
  rw [show PyData.canLay0 (.list xs) = true by rw [PyData.canLay0]; exact h1, decide_eq_true (by rw [PyData.depth]; omega)]
  rfl
theorem shaped_tup {xs : List PyData} (h1 : PyData.canLayAll0 xs = true) (h2 : PyData.depthAll xs ≤ 63) : SeqAt.shaped (.tuple xs) = true := by
  unfold SeqAt.shaped
  rw [show PyData.canLay0 (.tuple xs) = true by rw [PyData.canLay0]; exact h1, decide_eq_true (by rw [PyData.depth]; omega)]
  rfl
theorem toP_lst {xs : List D} {ps : List PyData} (h : toPs xs = some ps) : toP (.lst xs) = some (.list ps) := by
  show (toPs xs).map PyData.list = _
  rw [h]; rfl
theorem toP_tup {xs : List D} {ps : List PyData} (h : toPs xs = some ps) : toP (.tup xs) = some (.tuple ps) := by
  show (toPs xs).map PyData.tuple = _
  rw [h]; rfl
theorem eq_nil {xs : List D} {ps : List PyData} (h : toPs xs = some ps) (h1 : PyData.canLayAll0 ps = true) (h2 : PyData.depthAll ps ≤ 63) : eqD (.lst xs) (.lst []) = some (.bl ps.isEmpty) ∧ neD (.lst xs) (.lst []) = some (.bl (!ps.isEmpty)) := by
  constructor
  · refine orO_r rfl ((eqP_of (toP_lst h) rfl (shaped_list h1 h2) shaped_nil).trans ?_)
    rw [eqv_nil]; rfl
  · refine orO_r rfl ((eqP_of (toP_lst h) rfl (shaped_list h1 h2) shaped_nil).trans ?_)
    rw [eqv_nil]
theorem isEmpty_map {α β : Type} (f : α → β) (l : List α) : (l.map f).isEmpty = l.isEmpty := by cases l <;> rfl
theorem o_eqNilI (l : List Int) : eqD (.lst (l.map D.int)) (.lst []) = some (.bl l.isEmpty) := by
  have := (eq_nil (toPs_ints l) (lay_ints l).1 (by rw [(lay_ints l).2]; decide)).1
  rwa [isEmpty_map] at this
theorem o_neNilI (l : List Int) : neD (.lst (l.map D.int)) (.lst []) = some (.bl (!l.isEmpty)) := by
  have := (eq_nil (toPs_ints l) (lay_ints l).1 (by rw [(lay_ints l).2]; decide)).2
  rwa [isEmpty_map] at this
theorem o_eqScr (l : List Int) : eqD (.scr l) (.lst []) = some (.bl l.isEmpty) := by
  refine orO_r rfl ((eqP_of (x := .scr l) rfl rfl (shaped_list (lay_ints l).1 (by rw [(lay_ints l).2]; decide)) shaped_nil).trans ?_)
  rw [eqv_nil, isEmpty_map]; rfl
end Mir

set_option Elab.async false
set_option linter.all false
set_option maxRecDepth 100000
set_option maxHeartbeats 1000000
/-! Mir, part U: strip of blanks. -/
namespace Mir
open PySem SX
theorem tw_drop (p : Nat → Bool) : ∀ l : List Nat, l.drop (l.takeWhile p).length = l.dropWhile p
  | [] => rfl
  | c :: l => by
    rw [List.takeWhile_cons, List.dropWhile_cons]
    cases p c with
    | true => exact tw_drop p l
    | false => rfl
theorem rev_take (p : Nat → Bool) (l : List Nat) : l.take (l.length - (l.reverse.takeWhile p).length) = (l.reverse.dropWhile p).reverse := by
  rw [← tw_drop p l.reverse, List.drop_reverse, List.reverse_reverse]
def blank (c : Nat) : Bool := c == 32
def strL (l : List Nat) : List Nat := ((l.dropWhile blank).reverse.dropWhile blank).reverse
theorem contains32 : (fun c => (S [32]).cps.contains c) = blank := by
  funext c
  show Array.contains #[32] c = _
  simp [blank, Array.contains]
theorem strip_S (l : List Nat) : Txt.stripChars (S l) (S [32]) = S (strL l) := by
  have goes : (S [32]).cps.contains = blank := contains32
  have lo : stripLo blank true (S l) = (l.takeWhile blank).length := rfl
  have hi : stripHi blank true (S l) (l.takeWhile blank).length = l.length - ((l.dropWhile blank).reverse.takeWhile blank).length := by
    show (S l).length - ((l.drop (l.takeWhile blank).length).reverse.takeWhile blank).length = _
    rw [S_len, tw_drop]
  have key : stripped blank true true (S l) = S (strL l) := by
    unfold stripped
    rw [lo, hi]
    refine TL.ext_tl ((TL.tl_strSub _ _ _).trans ?_)
    show (l.drop (l.takeWhile blank).length).take _ = strL l
    rw [tw_drop]
    unfold strL
    rw [← rev_take]
    congr 1
    have e : l.length = (l.takeWhile blank).length + (l.dropWhile blank).length := by
      have := congrArg List.length (List.takeWhile_append_dropWhile (p := blank) (l := l))
      rw [List.length_append] at this
      omega
    omega
  unfold Txt.stripChars Txt.stripBy
  rw [goes]
  by_cases h : stripSame blank true true (S l) = true
  · rw [if_pos h]
    rw [← key]
    unfold stripSame at h
    have h := Bool.and_eq_true_iff.mp h
    have h1 : stripLo blank true (S l) = 0 := by simpa using h.1
    have h2 : stripHi blank true (S l) (stripLo blank true (S l)) = (S l).length := by simpa using h.2
    unfold stripped
    rw [h2, h1, StrLaws.sub_whole]
  · rw [if_neg h]; exact key
theorem o_strip {l : List Nat} (hz : l.length ≤ 16777216) : stripD (.str (S l)) [.str (S [32])] = some (.str (S (strL l))) := by
  show (if small (S l).length = true then some (D.str (Txt.stripChars (S l) (S [32]))) else none) = _
  rw [if_pos (small_of (by rw [S_len]; exact hz)), strip_S]
theorem dw_mem {p : Nat → Bool} {c : Nat} : ∀ {l : List Nat}, c ∈ l.dropWhile p → c ∈ l
  | d :: l, h => by
    rw [List.dropWhile_cons] at h
    split at h
    · exact List.mem_cons_of_mem _ (dw_mem h)
    · exact h
theorem dw_len {p : Nat → Bool} : ∀ (l : List Nat), (l.dropWhile p).length ≤ l.length
  | [] => Nat.le_refl _
  | d :: l => by
    rw [List.dropWhile_cons]
    split
    · exact Nat.le_succ_of_le (dw_len l)
    · exact Nat.le_refl _
theorem strL_mem {l : List Nat} {c : Nat} (h : c ∈ strL l) : c ∈ l := dw_mem (List.mem_reverse.mp (dw_mem (List.mem_reverse.mp h)))
theorem strL_len (l : List Nat) : (strL l).length ≤ l.length := by
  unfold strL
  rw [List.length_reverse]
  refine Nat.le_trans (dw_len _) ?_
  rw [List.length_reverse]
  exact dw_len l
theorem dw_idem (p : Nat → Bool) : ∀ l : List Nat, (l.dropWhile p).dropWhile p = l.dropWhile p
  | [] => rfl
  | d :: l => by
    rw [List.dropWhile_cons]
    cases h : p d with
    | true => exact dw_idem p l
    | false =>
      show (d :: l).dropWhile p = d :: l
      rw [List.dropWhile_cons, h]
      rfl
theorem dw_head {p : Nat → Bool} {l : List Nat} {c : Nat} (h : (l.dropWhile p).head? = some c) : p c = false := by
  induction l with
  | nil => cases h
  | cons d l ih =>
    rw [List.dropWhile_cons] at h
    cases q : p d with
    | true => rw [q] at h; exact ih h
    | false => rw [q] at h; cases h; exact q
theorem dw_none {p : Nat → Bool} {l : List Nat} (h : ∀ c, l.head? = some c → p c = false) : l.dropWhile p = l := by
  cases l with
  | nil => rfl
  | cons d l => rw [List.dropWhile_cons, h d rfl]; rfl
/-- no blank at either end -/
def Ends (l : List Nat) : Prop := (∀ c, l.head? = some c → blank c = false) ∧ ∀ c, l.reverse.head? = some c → blank c = false
theorem strL_ends (l : List Nat) : Ends (strL l) := by
  constructor
  · intro c h
    unfold strL at h
    generalize hm : l.dropWhile blank = m at h
    have hd : ∀ c, m.head? = some c → blank c = false := fun c hc => dw_head (by rw [hm]; exact hc)
    cases m with
    | nil => cases h
    | cons d m =>
      have hd := hd d rfl
      have e : (((d :: m).reverse.dropWhile blank).reverse).head? = some d := by
        have : ∀ r : List Nat, ((r ++ [d]).dropWhile blank) = r.dropWhile blank ++ [d] := by
          intro r
          induction r with
          | nil => show List.dropWhile blank [d] = [d]; rw [List.dropWhile_cons, hd]; rfl
          | cons x r ih =>
            rw [List.cons_append, List.dropWhile_cons, List.dropWhile_cons]
            cases blank x with
            | true => exact ih
            | false => rfl
        rw [List.reverse_cons, this, List.reverse_append]
        rfl
      rw [e] at h
      cases h
      exact hd
  · intro c h
    unfold strL at h
    rw [List.reverse_reverse] at h
    exact dw_head h
theorem strL_id {l : List Nat} (h : Ends l) : strL l = l := by
  unfold strL
  rw [dw_none h.1, dw_none h.2, List.reverse_reverse]
end Mir

set_option Elab.async false
set_option linter.all false
set_option maxRecDepth 100000
set_option maxHeartbeats 1000000
/-! Mir, part V: what a mirror ends in, by weakest preconditions. -/
namespace Mir
open PySem SX
abbrev XP := Str → Sto → Prop
/-- a mark that keeps simp out of what follows a step -/
structure Tg {κ : Type} (k : κ) : Type where
def wp {α : Type} (r : R α) (Q : α → Sto → Prop) (X : XP) (t : Tg (Q, X) := ⟨⟩) : Prop := match r with
  | .ok a s => Q a s
  | .exc c s => X c s
  | .no => False
def onO {α : Type} (o : Option α) (k : α → Prop) (t : Tg k := ⟨⟩) : Prop := ∃ a, o = some a ∧ k a
def onB (d : D) (k : Bool → Prop) (t : Tg k := ⟨⟩) : Prop := ∃ v, d = .bl v ∧ k v
def onI (d : D) (k : Int → Prop) (t : Tg k := ⟨⟩) : Prop := ∃ v, d = .int v ∧ k v
def onL (d : D) (k : List D → Prop) (t : Tg k := ⟨⟩) : Prop := ∃ v, d = .lst v ∧ k v
def onT (d : D) (k : List D → Prop) (t : Tg k := ⟨⟩) : Prop := ∃ v, d = .tup v ∧ k v
def onS (d : D) (k : Str → Prop) (t : Tg k := ⟨⟩) : Prop := ∃ v, d = .str v ∧ k v
def onE (τ : Ev) (k : Ev → Prop) (t : Tg k := ⟨⟩) : Prop := k τ
def onC (p : Bool) (k : Prop) (t : Tg k := ⟨⟩) : Prop := p = true ∧ k
theorem wp_cg {α : Type} {r : R α} {Q Q' : α → Sto → Prop} {X : XP} (h : ∀ a s, Q a s = Q' a s) : wp r Q X = wp r Q' X := by
  have e : Q = Q' := funext fun a => funext fun s => h a s
  rw [e]
theorem onO_cg {α : Type} {o : Option α} {k k' : α → Prop} (h : ∀ a, k a = k' a) : onO o k = onO o k' := by
  have e : k = k' := funext h
  rw [e]
theorem onO_some {α : Type} {a : α} {k : α → Prop} : onO (some a) k = k a := propext ⟨fun ⟨_, h, q⟩ => by cases h; exact q, fun h => ⟨a, rfl, h⟩⟩
theorem onB_bl {v : Bool} {k : Bool → Prop} : onB (.bl v) k = k v := propext ⟨fun ⟨_, h, q⟩ => by cases h; exact q, fun h => ⟨v, rfl, h⟩⟩
theorem onI_int {v : Int} {k : Int → Prop} : onI (.int v) k = k v := propext ⟨fun ⟨_, h, q⟩ => by cases h; exact q, fun h => ⟨v, rfl, h⟩⟩
theorem onL_lst {v : List D} {k : List D → Prop} : onL (.lst v) k = k v := propext ⟨fun ⟨_, h, q⟩ => by cases h; exact q, fun h => ⟨v, rfl, h⟩⟩
theorem onT_tup {v : List D} {k : List D → Prop} : onT (.tup v) k = k v := propext ⟨fun ⟨_, h, q⟩ => by cases h; exact q, fun h => ⟨v, rfl, h⟩⟩
theorem onS_str {v : Str} {k : Str → Prop} : onS (.str v) k = k v := propext ⟨fun ⟨_, h, q⟩ => by cases h; exact q, fun h => ⟨v, rfl, h⟩⟩
theorem onE_go {τ : Ev} {k : Ev → Prop} : onE τ k = k τ := rfl
theorem onC_t {k : Prop} : onC true k = k := propext ⟨fun h => h.2, fun h => ⟨rfl, h⟩⟩
section
variable {α β : Type} {r : R α} {Q : α → Sto → Prop} {X : XP} {τ : Ev} {s : Sto}
theorem wp_mono {Q' : α → Sto → Prop} {X' : XP} (h : wp r Q X) (hq : ∀ a s, Q a s → Q' a s) (hx : ∀ c s, X c s → X' c s) : wp r Q' X' := by
  cases r with
  | ok a s => exact hq a s h
  | exc c s => exact hx c s h
  | no => exact h
theorem wp_imp {Q' : α → Sto → Prop} (h : wp r Q X) (hq : ∀ a s, Q a s → Q' a s) : wp r Q' X := wp_mono h hq fun _ _ h => h
theorem wp_bind {f : α → M β} {Q : β → Sto → Prop} : wp (r.bind f) Q X = wp r (fun a s => wp (f a s) Q X) X := by cases r <;> rfl
theorem wp_ret {a : α} : wp (M.ret a s) Q X = Q a s := rfl
theorem wp_ok {a : α} : wp (.ok a s) Q X = Q a s := rfl
theorem wp_exc {c : Str} : wp (.exc c s) Q X = X c s := rfl
theorem wp_opt {o : Option α} : wp (M.opt o s) Q X = onO o fun a => Q a s := by
  unfold onO
  cases o with
  | none => exact propext ⟨fun h => h.elim, fun ⟨_, h, _⟩ => nomatch h⟩
  | some a => exact propext ⟨fun h => ⟨a, rfl, h⟩, fun ⟨_, h, k⟩ => by cases h; exact k⟩
theorem wp_eq {a : α} {s' : Sto} (e : r = .ok a s') (h : Q a s') : wp r Q X := by rw [e]; exact h
theorem wp_ite {p : Prop} [Decidable p] {f g : R α} : wp (if p then f else g) Q X = if p then wp f Q X else wp g Q X := by split <;> rfl
end
section
variable {Q : D → Sto → Prop} {X : XP} {τ : Ev} {s : Sto} {f a b : ED} {fs : AD} {t u : TD}
theorem wp_var {i : Nat} : wp (eVar i τ s) Q X = onO (τ[i]?) fun o => onO o fun d => Q d s := by
  unfold eVar onO
  cases h : τ[i]? with
  | none => exact propext ⟨fun h => h.elim, fun ⟨_, h, _⟩ => nomatch h⟩
  | some o =>
    cases o with
    | none => exact propext ⟨fun h => h.elim, fun ⟨_, h, _, k, _⟩ => by cases h; cases k⟩
    | some d => exact propext ⟨fun h => ⟨_, rfl, d, rfl, h⟩, fun ⟨_, h, _, k, q⟩ => by cases h; cases k; exact q⟩
theorem wp_c {d : D} : wp (eC d τ s) Q X = Q d s := rfl
theorem wp_e1 {op : D → Option D} : wp (e1 op a τ s) Q X = wp (a τ s) (fun x s => onO (op x) fun d => Q d s) X := by
  unfold e1; rw [wp_bind]; refine wp_cg fun x s => ?_; exact wp_opt
theorem wp_e2 {op : D → D → Option D} : wp (e2 op a b τ s) Q X = wp (a τ s) (fun x s => wp (b τ s) (fun y s => onO (op x y) fun d => Q d s) X) X := by
  unfold e2; rw [wp_bind]; refine wp_cg fun x s => ?_; rw [wp_bind]; refine wp_cg fun y s => ?_; exact wp_opt
theorem wp_nil {Q : List D → Sto → Prop} : wp (aNil τ s) Q X = Q [] s := rfl
theorem wp_cons {Q : List D → Sto → Prop} : wp (aCons a fs τ s) Q X = wp (a τ s) (fun x s => wp (fs τ s) (fun xs s => Q (x :: xs) s) X) X := by
  unfold aCons; rw [wp_bind]; refine wp_cg fun x s => ?_; rw [wp_bind]; rfl
theorem wp_eN {op : List D → Option D} : wp (eN op fs τ s) Q X = wp (fs τ s) (fun xs s => onO (op xs) fun d => Q d s) X := by
  unfold eN; rw [wp_bind]; refine wp_cg fun x s => ?_; exact wp_opt
theorem wp_iN {op : List D → Option (List D)} {Q : List D → Sto → Prop} : wp (iN op fs τ s) Q X = wp (fs τ s) (fun xs s => onO (op xs) fun d => Q d s) X := by
  unfold iN; rw [wp_bind]; refine wp_cg fun x s => ?_; exact wp_opt
theorem wp_call {F : FD} : wp (eCall F fs τ s) Q X = wp (fs τ s) (fun xs s => wp (F xs s) Q X) X := wp_bind
theorem wp_mt {T : String} {op : D → List D → Option D} : wp (eMt T op a fs τ s) Q X = wp (a τ s) (fun x s => onC (isTy T x) (wp (fs τ s) (fun xs s => onO (op x xs) fun d => Q d s) X)) X := by
  unfold eMt onC; rw [wp_bind]; refine wp_cg fun x s => ?_
  by_cases h : isTy T x = true
  · rw [if_pos h, wp_bind]
    refine propext ⟨fun k => ⟨h, ?_⟩, fun k => ?_⟩
    · refine wp_imp k fun xs s q => ?_
      rwa [wp_opt] at q
    · refine wp_imp k.2 fun xs s q => ?_
      rwa [wp_opt]
  · rw [if_neg h]
    exact propext ⟨fun k => k.elim, fun k => absurd k.1 h⟩
theorem wp_toL {Q : List D → Sto → Prop} {d : D} : wp (toL d s) Q X = onL d fun xs => Q xs s := by
  unfold onL
  cases d <;> first | exact propext ⟨fun h => ⟨_, rfl, h⟩, fun ⟨_, h, k⟩ => by cases h; exact k⟩ | exact propext ⟨fun h => h.elim, fun ⟨_, h, _⟩ => nomatch h⟩
theorem wp_toT {Q : List D → Sto → Prop} {d : D} : wp (toT d s) Q X = onT d fun xs => Q xs s := by
  unfold onT
  cases d <;> first | exact propext ⟨fun h => ⟨_, rfl, h⟩, fun ⟨_, h, k⟩ => by cases h; exact k⟩ | exact propext ⟨fun h => h.elim, fun ⟨_, h, _⟩ => nomatch h⟩
theorem wp_iLst {Q : List D → Sto → Prop} : wp (iLst a τ s) Q X = wp (a τ s) (fun d s => onL d fun xs => Q xs s) X := by
  unfold iLst; rw [wp_bind]; refine wp_cg fun x s => ?_; exact wp_toL
theorem wp_iTpl {Q : List D → Sto → Prop} : wp (iTpl a τ s) Q X = wp (a τ s) (fun d s => onT d fun xs => Q xs s) X := by
  unfold iTpl; rw [wp_bind]; refine wp_cg fun x s => ?_; exact wp_toT
theorem wp_iStr {Q : List D → Sto → Prop} : wp (iStrD a τ s) Q X = wp (a τ s) (fun d s => onS d fun z => Q (z.cps.toList.map fun k => .str ⟨#[k]⟩) s) X := by
  unfold onS
  unfold iStrD; rw [wp_bind]; refine wp_cg fun d s => ?_
  cases d <;> first | exact propext ⟨fun h => ⟨_, rfl, h⟩, fun ⟨_, h, k⟩ => by cases h; exact k⟩ | exact propext ⟨fun h => h.elim, fun ⟨_, h, _⟩ => nomatch h⟩
theorem wp_oNone {Q : Option Int → Sto → Prop} : wp (oNone τ s) Q X = Q none s := rfl
theorem wp_oSome {Q : Option Int → Sto → Prop} : wp (oSome a τ s) Q X = wp (a τ s) (fun d s => onI d fun i => Q (some i) s) X := by
  unfold onI
  unfold oSome; rw [wp_bind]; refine wp_cg fun d s => ?_
  cases d <;> first | exact propext ⟨fun h => ⟨_, rfl, h⟩, fun ⟨_, h, k⟩ => by cases h; exact k⟩ | exact propext ⟨fun h => h.elim, fun ⟨_, h, _⟩ => nomatch h⟩
theorem wp_sl {lo hi : OD} : wp (eSl a lo hi τ s) Q X = wp (a τ s) (fun x s => wp (lo τ s) (fun l s => wp (hi τ s) (fun u s => onO (slD x l u) fun d => Q d s) X) X) X := by
  unfold eSl; rw [wp_bind]; refine wp_cg fun x s => ?_; rw [wp_bind]; refine wp_cg fun l s => ?_; rw [wp_bind]; refine wp_cg fun u s => ?_; exact wp_opt
theorem wp_toB {Q : Bool → Sto → Prop} {d : D} : wp (toB d s) Q X = onB d fun v => Q v s := by
  unfold onB
  cases d <;> first | exact propext ⟨fun h => ⟨_, rfl, h⟩, fun ⟨_, h, k⟩ => by cases h; exact k⟩ | exact propext ⟨fun h => h.elim, fun ⟨_, h, _⟩ => nomatch h⟩
theorem wp_tB1 {Q : Bool → Sto → Prop} : wp (tB1 a τ s) Q X = wp (a τ s) (fun d s => onB d fun v => Q v s) X := by
  unfold tB1; rw [wp_bind]; refine wp_cg fun x s => ?_; exact wp_toB
theorem wp_tYes {Q : Bool → Sto → Prop} : wp (tYesD τ s) Q X = Q true s := rfl
theorem wp_tNot {Q : Bool → Sto → Prop} : wp (tNotD t τ s) Q X = wp (t τ s) (fun v s => Q (!v) s) X := by
  unfold tNotD; rw [wp_bind]; rfl
theorem wp_tAnd {Q : Bool → Sto → Prop} : wp (tAndD t u τ s) Q X = wp (t τ s) (fun v s => if v = true then wp (u τ s) Q X else Q false s) X := by
  unfold tAndD; rw [wp_bind]; refine wp_cg fun v s => ?_; cases v <;> rfl
theorem wp_tOr {Q : Bool → Sto → Prop} : wp (tOrD t u τ s) Q X = wp (t τ s) (fun v s => if v = true then Q true s else wp (u τ s) Q X) X := by
  unfold tOrD; rw [wp_bind]; refine wp_cg fun v s => ?_; cases v <;> rfl
theorem wp_eAnd : wp (eAndD a b τ s) Q X = wp (a τ s) (fun d s => onB d fun v => if v = true then wp (b τ s) Q X else Q (.bl false) s) X := by
  unfold onB
  unfold eAndD; rw [wp_bind]; refine wp_cg fun d s => ?_
  cases d <;> first
    | exact propext ⟨fun h => h.elim, fun ⟨_, h, _⟩ => nomatch h⟩
    | skip
  rename_i v
  cases v
  · exact propext ⟨fun h => ⟨_, rfl, h⟩, fun ⟨_, h, k⟩ => by cases h; exact k⟩
  · exact propext ⟨fun h => ⟨_, rfl, h⟩, fun ⟨_, h, k⟩ => by cases h; exact k⟩
theorem wp_eOr : wp (eOrD a b τ s) Q X = wp (a τ s) (fun d s => onB d fun v => if v = true then Q (.bl true) s else wp (b τ s) Q X) X := by
  unfold onB
  unfold eOrD; rw [wp_bind]; refine wp_cg fun d s => ?_
  cases d <;> first
    | exact propext ⟨fun h => h.elim, fun ⟨_, h, _⟩ => nomatch h⟩
    | skip
  rename_i v
  cases v
  · exact propext ⟨fun h => ⟨_, rfl, h⟩, fun ⟨_, h, k⟩ => by cases h; exact k⟩
  · exact propext ⟨fun h => ⟨_, rfl, h⟩, fun ⟨_, h, k⟩ => by cases h; exact k⟩
theorem wp_eIf : wp (eIf t a b τ s) Q X = wp (t τ s) (fun v s => if v = true then wp (a τ s) Q X else wp (b τ s) Q X) X := by
  unfold eIf; rw [wp_bind]; refine wp_cg fun v s => ?_; cases v <;> rfl
theorem wp_ch {op op' : D → D → Option D} {e : ED} : wp (eCh op op' a b e τ s) Q X = wp (a τ s) (fun x s => wp (b τ s) (fun y s => onO (op x y) fun d => onB d fun v => if v = true then wp (e τ s) (fun z s => onO (op' y z) fun d => Q d s) X else Q (.bl false) s) X) X := by
  unfold eCh; rw [wp_bind]; refine wp_cg fun x s => ?_; rw [wp_bind]; refine wp_cg fun y s => ?_; rw [wp_bind, wp_opt]
  refine onO_cg fun d => ?_
  unfold onB
  refine propext ⟨fun k => ?_, fun ⟨v, h, k⟩ => ?_⟩
  · cases d <;> first | exact k.elim | skip
    rename_i v
    refine ⟨v, rfl, ?_⟩
    cases v
    · exact k
    · rw [if_pos rfl]
      refine wp_imp (r := e τ s) (Q := fun u s => wp (M.opt (op' y u) s) Q X) ?_ fun u s k => ?_
      · have k : wp ((e τ s).bind fun u => M.opt (op' y u)) Q X := k
        rwa [wp_bind] at k
      · rwa [wp_opt] at k
  · subst h
    cases v
    · exact k
    · rw [if_pos rfl] at k
      show wp ((e τ s).bind fun u => M.opt (op' y u)) Q X
      rw [wp_bind]
      refine wp_imp k fun u s k => ?_
      rwa [wp_opt]
theorem wp_told {errs : List Str} : wp (eTold errs a τ s) Q X = wp (a τ s) Q (fun c s => c ∈ errs ∧ Q (wordD c) s) := by
  unfold eTold
  cases h : a τ s with
  | ok d s => rfl
  | exc c s =>
    show wp (if c ∈ errs then .ok (wordD c) s else .no) Q X = (c ∈ errs ∧ Q (wordD c) s)
    by_cases k : c ∈ errs
    · rw [if_pos k]; exact propext ⟨fun h => ⟨k, h⟩, fun h => h.2⟩
    · rw [if_neg k]; exact propext ⟨fun h => h.elim, fun h => absurd h.1 k⟩
  | no => rfl
/-! statements -/
variable {QS : Fl → Sto → Prop} {p q : SD}
theorem wp_next : wp (sNext τ s) QS X = QS (.nx τ) s := rfl
theorem wp_break : wp (sBreak τ s) QS X = QS (.bk τ) s := rfl
theorem wp_cont : wp (sCont τ s) QS X = QS (.ct τ) s := rfl
theorem wp_retN : wp (sRetN τ s) QS X = QS (.rt .non) s := rfl
theorem wp_raise {x : Str} : wp (sRaise x τ s) QS X = X x s := rfl
theorem wp_seq : wp (sSeq p q τ s) QS X = wp (p τ s) (fun fl s => match fl with | .nx τ' => wp (q τ' s) QS X | o => QS o s) X := by
  unfold sSeq; rw [wp_bind]; refine wp_cg fun fl s => ?_; cases fl <;> rfl
theorem wp_expr : wp (sExpr a τ s) QS X = wp (a τ s) (fun _ s => QS (.nx τ) s) X := by
  unfold sExpr; rw [wp_bind]; rfl
theorem wp_set {i : Nat} : wp (sSet i a τ s) QS X = wp (a τ s) (fun d s => onE (τ.set i (some d)) fun τ => QS (.nx τ) s) X := by
  unfold sSet; rw [wp_bind]; rfl
theorem wp_setO {i : Nat} : wp (sSetO i a τ s) QS X = wp (a τ s) (fun d s => onC (isCt d) (onE (τ.set i (some d)) fun τ => QS (.nx τ) s)) X := by
  unfold onC onE
  unfold sSetO; rw [wp_bind]; refine wp_cg fun d s => ?_
  by_cases h : isCt d = true
  · rw [if_pos h]; exact propext ⟨fun k => ⟨h, k⟩, fun k => k.2⟩
  · rw [if_neg h]; exact propext ⟨fun k => k.elim, fun k => absurd k.1 h⟩
theorem wp_retS : wp (sRet a τ s) QS X = wp (a τ s) (fun d s => QS (.rt d) s) X := by
  unfold sRet; rw [wp_bind]; rfl
theorem wp_if : wp (sIf t p q τ s) QS X = wp (t τ s) (fun v s => if v = true then wp (p τ s) QS X else wp (q τ s) QS X) X := by
  unfold sIf; rw [wp_bind]; refine wp_cg fun v s => ?_; cases v <;> rfl
theorem wp_app {i : Nat} : wp (sApp i a τ s) QS X = onO (τ[i]?) fun o => onO o fun l => onL l fun xs => wp (a τ s) (fun d s => onC (small (xs.length + 1)) (onE (τ.set i (some (.lst (xs ++ [d])))) fun τ => QS (.nx τ) s)) X := by
  unfold sApp onO onL onC onE
  cases h : τ[i]? with
  | none => exact propext ⟨fun h => h.elim, fun ⟨_, h, _⟩ => nomatch h⟩
  | some o =>
    cases o with
    | none => exact propext ⟨fun h => h.elim, fun ⟨_, h, _, k, _⟩ => by cases h; cases k⟩
    | some d =>
      cases d <;> first | exact propext ⟨fun h => h.elim, fun ⟨_, h, _, k, _, q, _⟩ => by cases h; cases k; cases q⟩ | skip
      rename_i xs
      have key : wp ((a τ s).bind fun d => if small (xs.length + 1) then M.ret (.nx (τ.set i (some (.lst (xs ++ [d]))))) else fun _ => .no) QS X = wp (a τ s) (fun d s => small (xs.length + 1) = true ∧ QS (.nx (τ.set i (some (.lst (xs ++ [d]))))) s) X := by
        rw [wp_bind]; refine wp_cg fun d s => ?_
        by_cases h : small (xs.length + 1) = true
        · rw [if_pos h]; exact propext ⟨fun k => ⟨h, k⟩, fun k => k.2⟩
        · rw [if_neg h]; exact propext ⟨fun k => k.elim, fun k => absurd k.1 h⟩
      refine propext ⟨fun k => ⟨_, rfl, _, rfl, xs, rfl, ?_⟩, fun ⟨_, h, _, h2, _, h3, k⟩ => ?_⟩
      · exact cast key k
      · cases h; cases h2; cases h3; exact cast key.symm k
theorem wp_asg {tg : D → Ev → Option Ev} : wp (sAsg a tg τ s) QS X = wp (a τ s) (fun d s => onO (tg d τ) fun τ' => QS (.nx τ') s) X := by
  unfold onO
  unfold sAsg; rw [wp_bind]; refine wp_cg fun d s => ?_
  cases h : tg d τ with
  | none => exact propext ⟨fun k => k.elim, fun ⟨_, h, _⟩ => nomatch h⟩
  | some τ' => exact propext ⟨fun k => ⟨_, rfl, k⟩, fun ⟨_, h, k⟩ => by cases h; exact k⟩
theorem wp_setI {i : Nat} : wp (sSetI i b a τ s) QS X = wp (a τ s) (fun d s => onO (τ[i]?) fun o => onO o fun l => onL l fun xs => wp (b τ s) (fun j s => onI j fun j' => onO (L2.ixN xs.length j') fun k => onE (τ.set i (some (.lst (xs.set k d)))) fun τ => QS (.nx τ) s) X) X := by
  unfold sSetI onO onL onI onE; rw [wp_bind]; refine wp_cg fun d s => ?_
  cases h : τ[i]? with
  | none => exact propext ⟨fun h => h.elim, fun ⟨_, h, _⟩ => nomatch h⟩
  | some o =>
    cases o with
    | none => exact propext ⟨fun h => h.elim, fun ⟨_, h, _, k, _⟩ => by cases h; cases k⟩
    | some z =>
      cases z <;> first | exact propext ⟨fun h => h.elim, fun ⟨_, h, _, k, _, q, _⟩ => by cases h; cases k; cases q⟩ | skip
      rename_i xs
      have key : wp ((b τ s).bind fun j => match j with
        | .int j => match L2.ixN xs.length j with
          | some k => M.ret (.nx (τ.set i (some (.lst (xs.set k d)))))
          | none => fun _ => .no
        | _ => fun _ => .no) QS X = wp (b τ s) (fun j s => ∃ j', j = .int j' ∧ ∃ k, L2.ixN xs.length j' = some k ∧ QS (.nx (τ.set i (some (.lst (xs.set k d))))) s) X := by
        rw [wp_bind]; refine wp_cg fun j s => ?_
        cases j <;> first | exact propext ⟨fun h => h.elim, fun ⟨_, h, _⟩ => nomatch h⟩ | skip
        rename_i j
        show wp ((match L2.ixN xs.length j with
          | some k => M.ret (.nx (τ.set i (some (.lst (xs.set k d)))))
          | none => fun _ => .no : M Fl) s) QS X = _
        cases e : L2.ixN xs.length j with
        | none => exact propext ⟨fun h => h.elim, fun ⟨_, h, _, k, _⟩ => by cases h; rw [e] at k; cases k⟩
        | some k => exact propext ⟨fun h => ⟨_, rfl, k, e, h⟩, fun ⟨_, h, _, k, q⟩ => by cases h; rw [e] at k; cases k; exact q⟩
      refine propext ⟨fun k => ⟨_, rfl, _, rfl, xs, rfl, ?_⟩, fun ⟨_, h, _, h2, _, h3, k⟩ => ?_⟩
      · exact cast key k
      · cases h; cases h2; cases h3; exact cast key.symm k
theorem wp_fn {np nN : Nat} {ds : List D} : wp (fnM np nN p ds s) Q X = onC (decide (ds.length = np)) (onE (ds.map some ++ List.replicate (nN - np) none) fun τ => wp (p τ s) (fun fl s => match fl with | .nx _ => Q .non s | .rt d => Q d s | _ => False) X) := by
  unfold fnM onC onE
  by_cases h : ds.length = np
  · rw [if_pos h, wp_bind]
    refine propext ⟨fun k => ⟨decide_eq_true h, wp_imp k fun fl s k => ?_⟩, fun k => wp_imp k.2 fun fl s k => ?_⟩ <;> (cases fl <;> exact k)
  · rw [if_neg h]; exact propext ⟨fun k => k.elim, fun k => absurd (of_decide_eq_true k.1) h⟩
theorem wp_for {it : AD} {tg : D → Ev → Option Ev} : wp (sFor it tg p τ s) QS X = wp (it τ s) (fun ds s => wp (forGo tg p ds τ s) QS X) X := wp_bind
theorem wp_forGo {tg : D → Ev → Option Ev} : ∀ (ds : List D) (I : Nat → Ev → Sto → Prop) (τ : Ev) (s : Sto), I 0 τ s →
    (∀ i d τ s, ds[i]? = some d → I i τ s → ∃ τ1, tg d τ = some τ1 ∧ wp (p τ1 s) (fun fl s => match fl with | .nx τ2 => I (i + 1) τ2 s | .ct τ2 => I (i + 1) τ2 s | .bk τ2 => QS (.nx τ2) s | .rt d => QS (.rt d) s) X) →
    (∀ τ s, I ds.length τ s → QS (.nx τ) s) → wp (forGo tg p ds τ s) QS X
  | [], I, τ, s, h0, _, hQ => hQ τ s h0
  | d :: ds, I, τ, s, h0, hs, hQ => by
    obtain ⟨τ1, e1, hb⟩ := hs 0 d τ s rfl h0
    unfold forGo
    rw [e1]
    show wp ((p τ1 s).bind _) QS X
    rw [wp_bind]
    refine wp_imp hb fun fl s h => ?_
    cases fl with
    | nx τ2 => exact wp_forGo ds (fun i => I (i + 1)) τ2 s h (fun i d τ s hd hi => hs (i + 1) d τ s hd hi) hQ
    | ct τ2 => exact wp_forGo ds (fun i => I (i + 1)) τ2 s h (fun i d τ s hd hi => hs (i + 1) d τ s hd hi) hQ
    | bk τ2 => exact h
    | rt d => exact h
theorem wp_forN {tg : D → Ev → Option Ev} : wp (forGo tg p [] τ s) QS X = QS (.nx τ) s := rfl
theorem wp_forC {tg : D → Ev → Option Ev} {d : D} {ds : List D} : wp (forGo tg p (d :: ds) τ s) QS X = onO (tg d τ) fun τ1 => wp (p τ1 s) (fun fl s => match fl with | .nx τ2 => wp (forGo tg p ds τ2 s) QS X | .ct τ2 => wp (forGo tg p ds τ2 s) QS X | .bk τ2 => QS (.nx τ2) s | .rt d => QS (.rt d) s) X := by
  conv => lhs; unfold forGo
  cases e : tg d τ with
  | none => exact propext ⟨fun h => h.elim, fun ⟨_, h, _⟩ => nomatch h⟩
  | some τ1 =>
    rw [onO_some]
    show wp ((p τ1 s).bind _) QS X = _
    rw [wp_bind]
    refine wp_cg fun fl s => ?_
    cases fl <;> rfl
theorem wp_loopW {t : TD} {I : Nat → Ev → Sto → Prop}
    (hs : ∀ m τ s, I m τ s → wp (t τ s) (fun v s => if v = true then wp (p τ s) (fun fl s => match fl with | .nx τ2 => ∃ m', m' < m ∧ I m' τ2 s | .ct τ2 => ∃ m', m' < m ∧ I m' τ2 s | .bk τ2 => QS (.nx τ2) s | .rt d => QS (.rt d) s) X else QS (.nx τ) s) X) :
    ∀ (n m : Nat) (τ : Ev) (s : Sto), m < n → I m τ s → wp (loopW t p n τ s) QS X
  | 0, m, τ, s, hm, _ => absurd hm (Nat.not_lt_zero _)
  | n + 1, m, τ, s, hm, hi => by
    unfold loopW
    rw [wp_bind]
    refine wp_imp (hs m τ s hi) fun v s h => ?_
    cases v with
    | false => exact h
    | true =>
      rw [if_pos rfl] at h
      show wp ((p τ s).bind _) QS X
      rw [wp_bind]
      refine wp_imp h fun fl s h => ?_
      cases fl with
      | nx τ2 => obtain ⟨m', h1, h2⟩ := h; exact wp_loopW hs n m' τ2 s (by omega) h2
      | ct τ2 => obtain ⟨m', h1, h2⟩ := h; exact wp_loopW hs n m' τ2 s (by omega) h2
      | bk τ2 => exact h
      | rt d => exact h
theorem wp_while {t : TD} {I : Nat → Ev → Sto → Prop} {m : Nat} (hm : m < 1000000) (hi : I m τ s)
    (hs : ∀ m τ s, I m τ s → wp (t τ s) (fun v s => if v = true then wp (p τ s) (fun fl s => match fl with | .nx τ2 => ∃ m', m' < m ∧ I m' τ2 s | .ct τ2 => ∃ m', m' < m ∧ I m' τ2 s | .bk τ2 => QS (.nx τ2) s | .rt d => QS (.rt d) s) X else QS (.nx τ) s) X) : wp (sWhile t p τ s) QS X :=
  wp_loopW hs fuel m τ s hm hi
theorem wp_noX {α : Type} {r : R α} {Q : α → Sto → Prop} : wp (noX r) Q X = wp r Q (fun _ _ => False) := by cases r <;> rfl
theorem wp_lc {it : AD} {tg : D → Ev → Option Ev} {ts : TD} {el : ED} {vs : List Nat} : wp (eLc it tg ts el vs τ s) Q X = wp (it τ s) (fun ds s => onC (small ds.length) (wp (lcGo tg ts el (wipeD τ vs) ds s) (fun ys s => Q (.lst ys) s) X)) X := by
  unfold eLc onC; rw [wp_bind]; refine wp_cg fun ds s => ?_
  by_cases h : small ds.length = true
  · rw [if_pos h, wp_bind]; exact propext ⟨fun k => ⟨h, k⟩, fun k => k.2⟩
  · rw [if_neg h]; exact propext ⟨fun k => k.elim, fun k => absurd k.1 h⟩
theorem wp_lc0 {it : AD} {tg : D → Ev → Option Ev} {ts : TD} {el : ED} {vs : List Nat} : wp (eLc0 it tg ts el vs τ s) Q X = wp (it τ s) (fun ds s => onC (small ds.length) (wp (lcGo tg ts el (wipeD τ vs) ds s) (fun ys s => Q (.lst ys) s) (fun _ _ => False))) X := by
  unfold eLc0 onC; rw [wp_bind]; refine wp_cg fun ds s => ?_
  by_cases h : small ds.length = true
  · rw [if_pos h, wp_noX, wp_bind]; exact propext ⟨fun k => ⟨h, k⟩, fun k => k.2⟩
  · rw [if_neg h]; exact propext ⟨fun k => k.elim, fun k => absurd k.1 h⟩
theorem wp_lcGo {tg : D → Ev → Option Ev} {ts : TD} {el : ED} {QL : List D → Sto → Prop} : ∀ (ds : List D) (I : Nat → List D → Sto → Prop) (ys : List D) (s : Sto), I 0 ys s →
    (∀ i d ys s, ds[i]? = some d → I i ys s → ∃ τ1, tg d τ = some τ1 ∧ wp (ts τ1 s) (fun v s => if v = true then wp (el τ1 s) (fun y s => I (i + 1) (ys ++ [y]) s) X else I (i + 1) ys s) X) →
    (∀ zs s, I ds.length (ys ++ zs) s → QL zs s) → wp (lcGo tg ts el τ ds s) QL X
  | [], I, ys, s, h0, _, hQ => hQ [] s (by rw [List.append_nil]; exact h0)
  | d :: ds, I, ys, s, h0, hs, hQ => by
    obtain ⟨τ1, e1, hb⟩ := hs 0 d ys s rfl h0
    unfold lcGo
    rw [e1]
    show wp ((ts τ1 s).bind _) QL X
    rw [wp_bind]
    refine wp_imp hb fun v s h => ?_
    cases v with
    | false =>
      exact wp_lcGo ds (fun i => I (i + 1)) ys s h (fun i d ys s hd hi => hs (i + 1) d ys s hd hi) hQ
    | true =>
      rw [if_pos rfl] at h
      show wp ((el τ1 s).bind _) QL X
      rw [wp_bind]
      refine wp_imp h fun y s h => ?_
      show wp ((lcGo tg ts el τ ds s).bind _) QL X
      rw [wp_bind]
      exact wp_lcGo ds (fun i => I (i + 1)) (ys ++ [y]) s h (fun i d ys s hd hi => hs (i + 1) d ys s hd hi) (fun zs s k => hQ (y :: zs) s (by rw [List.append_assoc] at k; exact k))
end
end Mir

set_option Elab.async false
set_option linter.all false
set_option maxRecDepth 100000
set_option maxHeartbeats 1000000
/-! Mir, part Z: weakest preconditions of what looks at the store. -/
namespace Mir
open PySem SX
section
variable {Q : D → Sto → Prop} {X : XP} {τ : Ev} {s : Sto} {f a b : ED} {fs : AD} {QS : Fl → Sto → Prop}
def onN (d : D) (k : Prop) (t : Tg k := ⟨⟩) : Prop := d = .non ∧ k
theorem onN_non {k : Prop} : onN .non k = k := propext ⟨fun h => h.2, fun h => ⟨rfl, h⟩⟩
theorem wp_fld {cs : List Str} {n : Str} : wp (eFld cs n a τ s) Q X = wp (a τ s) (fun x s => onO (fldO cs n s x) fun d => Q d s) X := by
  unfold eFld; rw [wp_bind]; refine wp_cg fun x s => ?_; exact wp_opt
theorem wp_optS {α : Type} {o : Option Sto} {g : Sto → R α} {Q : α → Sto → Prop} : wp (match o with | some s' => g s' | none => .no) Q X = onO o fun s' => wp (g s') Q X := by
  cases o with
  | none => exact propext ⟨fun h => h.elim, fun ⟨_, h, _⟩ => nomatch h⟩
  | some a => rw [onO_some]
theorem wp_fldSet {cs : List Str} {n : Str} : wp (sFldSet cs n a b τ s) QS X = wp (b τ s) (fun y s => wp (a τ s) (fun x s => onO (setFld cs n y s x) fun s' => QS (.nx τ) s') X) X := by
  unfold sFldSet; rw [wp_bind]; refine wp_cg fun y s => ?_; rw [wp_bind]; refine wp_cg fun x s => ?_
  exact wp_optS (g := fun s' => R.ok (Fl.nx τ) s') (Q := QS)
theorem wp_meth {C m : Str} {F : FD} : wp (eMeth C m F a fs τ s) Q X = wp (a τ s) (fun x s => onC (isIns C m s x) (wp (fs τ s) (fun xs s => wp (F (x :: xs) s) Q X) X)) X := by
  unfold eMeth onC; rw [wp_bind]; refine wp_cg fun x s => ?_
  by_cases h : isIns C m s x = true
  · rw [if_pos h, wp_bind]; exact propext ⟨fun k => ⟨h, k⟩, fun k => k.2⟩
  · rw [if_neg h]; exact propext ⟨fun k => k.elim, fun k => absurd k.1 h⟩
theorem wp_newF {C : Str} {F : FD} {xs : List D} : wp (newF C F xs s) Q X = wp (F (.obj s.length :: xs) (s ++ [.ins C []])) (fun r s' => onN r (Q (.obj s.length) s')) X := by
  unfold newF onN; rw [wp_bind]; refine wp_cg fun r s' => ?_
  cases r <;> first | exact propext ⟨fun h => ⟨rfl, h⟩, fun h => h.2⟩ | exact propext ⟨fun h => h.elim, fun h => nomatch h.1⟩
theorem wp_new {C : Str} {F : FD} : wp (eNew C F fs τ s) Q X = wp (fs τ s) (fun xs s => wp (F (.obj s.length :: xs) (s ++ [.ins C []])) (fun r s' => onN r (Q (.obj s.length) s')) X) X := by
  unfold eNew; rw [wp_bind]; refine wp_cg fun xs s => ?_; exact wp_newF
theorem wp_sto : wp (eSto f τ s) Q X = wp (f τ s) (fun d s => onO (obOf d) fun ob => Q (.obj s.length) (s ++ [ob])) X := by
  unfold eSto; rw [wp_bind]; refine wp_cg fun d s => ?_
  cases h : obOf d with
  | none => exact propext ⟨fun h => h.elim, fun ⟨_, h, _⟩ => nomatch h⟩
  | some ob => rw [onO_some]; rfl
theorem wp_disp {ks : List Str} : wp (eDisp ks fs τ s) Q X = wp (fs τ s) (fun ds s => Q (.dct (mergeD ((ks.map Sum.inr).zip ds))) s) X := by
  unfold eDisp; rw [wp_bind]; rfl
theorem wp_e2S {op : Sto → D → D → Option D} : wp (e2S op a b τ s) Q X = wp (a τ s) (fun x s => wp (b τ s) (fun y s => onO (op s x y) fun d => Q d s) X) X := by
  unfold e2S; rw [wp_bind]; refine wp_cg fun x s => ?_; rw [wp_bind]; refine wp_cg fun y s => ?_; exact wp_opt
theorem wp_eNS {op : Sto → List D → Option D} : wp (eNS op fs τ s) Q X = wp (fs τ s) (fun xs s => onO (op s xs) fun d => Q d s) X := by
  unfold eNS; rw [wp_bind]; refine wp_cg fun x s => ?_; exact wp_opt
theorem wp_setS {o i v : ED} : wp (sSetS o i v τ s) QS X = wp (v τ s) (fun d s => wp (o τ s) (fun x s => wp (i τ s) (fun y s => onO (setS s x y d) fun s' => QS (.nx τ) s') X) X) X := by
  unfold sSetS; rw [wp_bind]; refine wp_cg fun d s => ?_; rw [wp_bind]; refine wp_cg fun x s => ?_; rw [wp_bind]; refine wp_cg fun y s => ?_
  exact wp_optS (g := fun s' => R.ok (Fl.nx τ) s') (Q := QS)
/-! the store -/
theorem fldO_at {cs : List Str} {n : Str} {m : Nat} {cl : Str} {fl : List (Str × D)} (h : s[m]? = some (.ins cl fl)) (hc : cl ∈ cs) : fldO cs n s (.obj m) = fl.lookup n := by
  show (match s[m]? with | some (.ins cl fs) => if cl ∈ cs then fs.lookup n else none | _ => none) = _
  rw [h]; exact if_pos hc
theorem setFld_at {cs : List Str} {n : Str} {v : D} {m : Nat} {cl : Str} {fl : List (Str × D)} (h : s[m]? = some (.ins cl fl)) (hc : cl ∈ cs) (hl : fl.length < 1000) : setFld cs n v s (.obj m) = some (s.set m (.ins cl (putFD n v fl))) := by
  show (match s[m]? with | some (.ins cl fs) => if cl ∈ cs then (if fs.length < 1000 then some (s.set m (.ins cl (putFD n v fs))) else none) else none | _ => none) = _
  rw [h]
  show (if cl ∈ cs then (if fl.length < 1000 then some (s.set m (.ins cl (putFD n v fl))) else none) else none) = _
  rw [if_pos hc, if_pos hl]
theorem isIns_at {C n : Str} {m : Nat} {fl : List (Str × D)} (h : s[m]? = some (.ins C fl)) (hn : fl.lookup n = none) : isIns C n s (.obj m) = true := by
  show (match s[m]? with | some (.ins cl fs) => decide (cl = C) && (fs.lookup n).isNone | _ => false) = true
  rw [h]
  show (decide (C = C) && (fl.lookup n).isNone) = true
  rw [hn]; simp
theorem sto_new {ob : Ob} : (s ++ [ob])[s.length]? = some ob := by simp
theorem sto_old {r : Sto} {m : Nat} {ob : Ob} (h : s[m]? = some ob) : (s ++ r)[m]? = some ob := by
  rw [List.getElem?_append_left (List.getElem?_eq_some_iff.mp h).1]; exact h
theorem sto_set {m : Nat} {ob ob' : Ob} (h : s[m]? = some ob) : (s.set m ob')[m]? = some ob' := List.getElem?_set_self (List.getElem?_eq_some_iff.mp h).1
theorem sto_setNew {ob ob' : Ob} : (s ++ [ob]).set s.length ob' = s ++ [ob'] := by simp
end
end Mir

set_option Elab.async false
set_option linter.all false
set_option maxRecDepth 100000
set_option maxHeartbeats 4000000
/-! Mir, part Tx: find, replace at plain lists. -/
namespace Mir
open PySem PySem.Spec PyProof.Rows L2 SX
theorem find3_S {l t rest : List Nat} {c i : Nat} (h : l.drop i = t ++ c :: rest) (hc : c ∉ t) (hi : i ≤ l.length) : Txt.find3 (S l) (S [c]) (i : Int) = ((i + t.length : Nat) : Int) := by
  have hl : (S l).length = l.length := S_len l
  have hx : ∀ v, (S l).cps.getD v 0 = l.getD v 0 := fun v => by
    show (l.toArray).getD v 0 = _
    simp [Array.getD_eq_getD_getElem?, List.getD_eq_getElem?_getD]
  have hlen : l.length = i + t.length + 1 + rest.length := by
    have := congrArg List.length h
    simp at this
    omega
  have hf : PySem.fromIndex (S l).length (i : Int) = i := by
    unfold PySem.fromIndex
    rw [if_neg (by omega)]
    omega
  have hg : ∀ v, l.getD (i + v) 0 = (t ++ c :: rest).getD v 0 := fun v => by
    rw [← h]; simp [List.getD_eq_getElem?_getD, List.getElem?_drop]
  have hat : l.getD (i + t.length) 0 = c := by rw [hg]; simp [List.getD_eq_getElem?_getD]
  have hbef : ∀ v, v < t.length → l.getD (i + v) 0 ≠ c := fun v hv he => by
    rw [hg, List.getD_eq_getElem?_getD, List.getElem?_append_left hv, List.getElem?_eq_getElem hv] at he
    exact hc (by rw [← he]; exact List.getElem_mem hv)
  rcases StrLaws.find3_spec (S l) c (i : Int) with ⟨_, hn⟩ | ⟨k, hk, h1, h2, h3, h4⟩
  · exact absurd ((hx _).trans hat) (hn (i + t.length) (by rw [hf]; omega) (by omega))
  · have e : (⟨#[c]⟩ : Str) = S [c] := rfl
    rw [e] at hk
    rw [hk]
    rw [hf] at h1 h4
    rw [hx] at h3
    congr 1
    rcases Nat.lt_trichotomy k (i + t.length) with hlt | heq | hgt
    · obtain ⟨v, rfl⟩ : ∃ v, k = i + v := ⟨k - i, by omega⟩
      exact absurd h3 (hbef v (by omega))
    · exact heq
    · exact absurd ((hx _).trans hat) (h4 (i + t.length) (by omega) hgt)
theorem repl_S {l z : List Nat} {c : Nat} : Txt.replace (S l) (S [c]) (S z) = S (TL.joinL z (TL.spl [c] 0 [] l)) := by
  have hy : TL.tl (S [c]) ≠ [] := by intro h; cases h
  obtain ⟨f, g, hn⟩ := StrLaws.occ_tight (S l) (S [c]) (TL.len1 hy)
  have key := TL.parts_spl hy _ 0 f (Nat.zero_le _) g hn
  rw [List.drop_zero] at key
  have e1 : TL.tl (S l) = l := rfl
  have e2 : TL.tl (S [c]) = [c] := rfl
  rw [e1, e2] at key
  unfold Txt.replace
  have hz : ((S [c]).length == 0 && (S z).length == 0) = false := rfl
  rw [hz, Bool.or_false]
  by_cases h2 : (Builtin.Str.occurrences (S l) (S [c]) 0 (S l).length ((S l).length + 1)).isEmpty = true
  · rw [if_pos h2]
    rw [List.isEmpty_iff.mp h2] at key
    have k2 : [TL.tl (Builtin.Str.strSub (S l) 0 (S l).length)] = TL.spl [c] 0 [] l := key
    rw [TL.tl_strSub_end, e1, List.drop_zero] at k2
    rw [← k2]
    rfl
  · rw [if_neg h2]
    refine TL.ext_tl ?_
    have k3 : Txt.join (S z) (Builtin.Str.partsBetween (S l) (Builtin.Str.occurrences (S l) (S [c]) 0 (S l).length ((S l).length + 1)) (S [c]).length) = _ := TL.join_eq _ _
    show TL.tl (Txt.join (S z) (Builtin.Str.partsBetween (S l) (Builtin.Str.occurrences (S l) (S [c]) 0 (S l).length ((S l).length + 1)) (S [c]).length)) = TL.joinL z _
    rw [k3, TL.tl_join]
    have k4 : (Builtin.Str.partsBetween (S l) (Builtin.Str.occurrences (S l) (S [c]) 0 (S l).length ((S l).length + 1)) (S [c]).length).map TL.tl = TL.spl [c] 0 [] l := by
      rw [StrLaws.partsBetween_eq]; exact key
    rw [k4]
end Mir

set_option Elab.async false
set_option linter.all false
set_option maxRecDepth 100000
set_option maxHeartbeats 4000000
/-! Mir, part Sa: set(..) of ints and texts, by the keys; len and sorted of it. -/
namespace Mir
open PySem PySem.Spec PyProof.Rows L2
/-- a set without members, as it is laid -/
def nset (w : World) : Obj := { cls := .type "set", dict := none, data := .set #[] 0 (.fresh 0 0 (!w.params.followText "set-order")) }
/-- the key that a value is -/
def kOf : Value → Key
  | .int i _ => .inl i
  | .str x _ => .inr x
  | _ => .inl 0
theorem kOf_is {k : Key} {v : Value} (h : keyIs k v = true) : kOf v = k := by
  rcases keyIs_shape h with ⟨i, t, rfl, rfl⟩ | ⟨x, t, rfl, rfl⟩ <;> rfl
theorem key_sc {k : Key} {v : Value} (h : keyIs k v = true) : v.scannable = true := by
  rcases keyIs_shape h with ⟨i, t, rfl, rfl⟩ | ⟨x, t, rfl, rfl⟩ <;> rfl
/-- a row of the table -/
def KRow (w : World) (e : Int × Value) : Prop := keyIs (kOf e.2) e.2 = true ∧ e.1 = keyH w (kOf e.2)
/-- the payload: rows with the keys ks (none twice); the table can be walked -/
structure SKt (w : World) (es : Array (Int × Value)) (t : SetTable) (ks : List Key) : Prop where
  row : ∀ e ∈ es.toList, KRow w e
  pm : (es.toList.map fun e => kOf e.2).Perm ks
  nd : ks.Nodup
  few : es.size < scanBound
  fit : t.fits es.size = true
  ris : Ris t.place.toList
  led : w.params.followText "set-order" = true ∨ t.led = true
/-- the set with the keys ks at a -/
def SK (w : World) (h : Heap) (a : Addr) (ks : List Key) : Prop := ∃ o es ep t, h.get? a = some o ∧ o.ExactSet ∧ o.data = .set es ep t ∧ SKt w es t ks
section
variable {P : Program} {w : World} {A : Around} {E : Value → Shared → Prop} {s : Shared} {a : Addr} {ks : List Key}
theorem SKt.len {es : Array (Int × Value)} {t : SetTable} (R : SKt w es t ks) : es.size = ks.length := by
  have := R.pm.length_eq
  rw [List.length_map, Array.length_toList] at this
  exact this
theorem SKt.els {es : Array (Int × Value)} {t : SetTable} (R : SKt w es t ks) : ElemsOf (mixKind P w) es.toList := fun e he =>
  ⟨⟨kOf e.2, (R.row e he).1, (R.row e he).2⟩, key_sc (R.row e he).1⟩
theorem SKt.mem {es : Array (Int × Value)} {t : SetTable} (R : SKt w es t ks) (k : Key) : k ∈ ks ↔ ∃ e ∈ es.toList, keyIs k e.2 = true := by
  rw [← R.pm.mem_iff, List.mem_map]
  constructor
  · rintro ⟨e, he, rfl⟩
    exact ⟨e, he, (R.row e he).1⟩
  · rintro ⟨e, he, q⟩
    exact ⟨e, he, kOf_is q⟩
theorem SK.at {h h' : Heap} (R : SK w h a ks) (k : ∀ o, h.get? a = some o → h'.get? a = some o) : SK w h' a ks := by
  obtain ⟨o, es, ep, t, ho, r⟩ := R
  exact ⟨o, es, ep, t, k o ho, r⟩
theorem SK.new {h : Heap} (ho : h.get? a = some (nset w)) : SK w h a [] :=
  ⟨_, #[], 0, _, ho, ⟨rfl, rfl, rfl⟩, rfl, fun e he => by simp at he, by simp, List.nodup_nil, by decide, by rfl, .nil, by
    cases hq : w.params.followText "set-order" with
    | true => exact .inl rfl
    | false => exact .inr (by show (!false) = true; rfl)⟩
/-- behind the laying of a new row -/
theorem sk_tail {g : Bool → Sem Unit} (hg : ∀ (b : Bool) (s1 : Shared) (Q' : Unit → Shared → Prop), Q' () s1 → wpAny (model P w) A (g b) Q' E s1) {o : Obj} {es : Array (Int × Value)} {ep : Nat} {t : SetTable} (ho : s.heap.get? a = some o) (hex : o.ExactSet) (hd : o.data = .set es ep t)
    {es1 : Array (Int × Value)} {t2 : SetTable} (T : SKt w es1 t2 ks) {wd : Bool} {R : Option Bool → Shared → Prop} (hR : ∀ h', Heap.SameBut a s.heap h' → SK w h' a ks → R (some true) { s with heap := h' }) :
    wpAny (model P w) A (do
      storeSet a es1 t2
      if (!wd && t2.tooFull) = true then do
          g (relayAll t2 es1 (SetTable.grown es1.size)).2.2
          storeSet a (relayAll t2 es1 (SetTable.grown es1.size)).1 (relayAll t2 es1 (SetTable.grown es1.size)).2.1
          pure (some true)
        else pure (some true)) R E s := by
  have o1 := store_at (es' := es1) (t' := t2) ho hd
  have b1 := Heap.SameBut.update s.heap a (Obj.putSet es1 t2)
  refine wpAny_bind (wpAny_storeSet_of ho hd ?_ (fits_of_scanBound T.few))
  by_cases hc : (!wd && t2.tooFull) = true
  · rw [if_pos hc]
    have pm := relayAll_perm t2 es1 (SetTable.grown es1.size)
    have f3 := relayAll_fits t2 es1 (SetTable.grown es1.size)
    have r3 := relayAll_ris t2 es1 (SetTable.grown es1.size)
    have l3 := relayAll_led t2 es1 (SetTable.grown es1.size)
    revert pm f3 r3 l3
    generalize relayAll t2 es1 (SetTable.grown es1.size) = Z
    obtain ⟨es2, t3, gv⟩ := Z
    intro pm f3 r3 l3
    dsimp only at pm f3 r3 l3 ⊢
    have hz : es2.size = es1.size := by rw [← Array.length_toList, pm.length_eq, Array.length_toList]
    have T2 : SKt w es2 t3 ks := ⟨fun e he => T.row e (pm.mem_iff.mp he), (pm.map _).trans T.pm, T.nd, by rw [hz]; exact T.few, f3, r3, T.led.imp id fun z => by rw [l3]; exact z⟩
    refine wpAny_bind (hg _ _ _ (wpAny_bind (wpAny_storeSet_of o1 rfl (wpAny_pure (hR _ (b1.trans (Heap.SameBut.update _ a _)) ?_)) (fits_of_scanBound T2.few))))
    exact ⟨_, es2, _, t3, store_at (es' := es2) (t' := t3) o1 rfl, hex, rfl, T2⟩
  · rw [if_neg hc]
    exact wpAny_pure (hR _ b1 ⟨_, es1, _, t2, o1, hex, rfl, T⟩)
open Classical in
noncomputable def insK (ks : List Key) (k : Key) : List Key := if k ∈ ks then ks else k :: ks
theorem mem_insK {ks : List Key} {k j : Key} : j ∈ insK ks k ↔ j ∈ ks ∨ j = k := by
  unfold insK
  by_cases h : k ∈ ks
  · rw [if_pos h]; exact ⟨.inl, fun z => z.elim id fun e => e ▸ h⟩
  · rw [if_neg h, List.mem_cons]; exact Or.comm
theorem len_insK {ks : List Key} {k : Key} : (insK ks k).length ≤ ks.length + 1 := by
  unfold insK
  split
  · omega
  · simp
/-- a key is added -/
theorem sk_add {k : Key} {v : Value} {Q : Bool → Shared → Prop} (hv : keyIs k v = true) (R : SK w s.heap a ks) (room : ks.length + 1 < scanBound)
    (hQ : ∀ h' b, Heap.SameBut a s.heap h' → SK w h' a (insK ks k) → Q b { s with heap := h' }) : wpAny (model P w) A (setAddHashed a v ((mixKind P w).hash k)) Q E s := by
  obtain ⟨o, es, ep, t, ho, hex, hd, T⟩ := R
  have hsc := key_sc hv
  have hel : ElemsOf (mixKind P w) es.toList := T.els
  have hgw : ∀ (b : Bool) {s1 : Shared} {Q' : Unit → Shared → Prop}, Q' () s1 → wpAny (model P w) A (match b with | true => rule "set.scan.the-table-gave-way" | false => pure ()) Q' E s1 := by
    intro b s1 Q' q
    cases b
    · exact wpAny_pure q
    · exact wpAny_rule q
  have hk0 : (mixKind P w).is k v = true := hv
  unfold setAddHashed setAddHashedIn
  refine wpAny_holding (wpAny_bind (wpAny_setState_of ho hd T.fit ?_))
  dsimp only
  rw [byScan_of hsc T.few hel]
  simp only [↓reduceIte]
  unfold setAddByScan
  refine wpAny_bind (wpAny_bind (wpAny_rule (wpAny_bind (wpAny_setScan_of hk0 ho hd T.fit hel ?_))))
  cases hfi : List.findIdx? (fun e => (mixKind P w).is k e.2) es.toList with
  | some j =>
    obtain ⟨hj, pj, _⟩ := List.findIdx?_eq_some_iff_getElem.mp hfi
    have hm : k ∈ ks := (T.mem k).mpr ⟨es.toList[j], List.getElem_mem hj, pj⟩
    dsimp only
    refine wpAny_pure (wpAny_pure ?_)
    have q := hQ s.heap false (Heap.SameBut.refl a s.heap) (by unfold insK; rw [if_pos hm]; exact ⟨o, es, ep, t, ho, hex, hd, T⟩)
    exact q
  | none =>
    dsimp only
    have hm : k ∉ ks := fun z => by
      obtain ⟨e, he, q⟩ := (T.mem k).mp z
      have c := List.findIdx?_eq_none_iff.mp hfi e he
      rw [show (mixKind P w).is k e.2 = true from q] at c
      cases c
    have pm := layNew_perm t es ((mixKind P w).hash k) v
    have f1 := layNew_fits t es ((mixKind P w).hash k) v
    have r1 := layNew_ris t es ((mixKind P w).hash k) v T.ris
    have l1 := layNew_led t es ((mixKind P w).hash k) v
    revert pm f1 r1 l1
    generalize layNew t es ((mixKind P w).hash k) v = Z
    obtain ⟨es1, t1, wd, gv⟩ := Z
    intro pm f1 r1 l1
    dsimp only at pm f1 r1 l1 ⊢
    rw [Array.toList_push] at pm
    have pc : es1.toList.Perm (((mixKind P w).hash k, v) :: es.toList) := pm.trans (List.perm_append_singleton _ _)
    have hz : es1.size = ks.length + 1 := by rw [← Array.length_toList, pc.length_eq, List.length_cons, Array.length_toList, T.len]
    have mk : ∀ t' : SetTable, t'.fits es1.size = true → t'.place = t1.place → t'.led = t1.led → SKt w es1 t' (insK ks k) := fun t' g1 g2 g3 => by
      have ek : insK ks k = k :: ks := by unfold insK; rw [if_neg hm]
      rw [ek]
      refine ⟨fun e he => ?_, (pc.map _).trans ?_, List.nodup_cons.mpr ⟨hm, T.nd⟩, by rw [hz]; exact room, g1, by rw [g2]; exact r1, T.led.imp id fun z => by rw [g3, l1]; exact z⟩
      · rcases List.mem_cons.mp (pc.mem_iff.mp he) with z | z
        · rw [z]
          refine ⟨?_, ?_⟩
          · show keyIs (kOf v) v = true; rw [kOf_is hv]; exact hv
          · show keyH w k = keyH w (kOf v); rw [kOf_is hv]
        · exact T.row e z
      · rw [List.map_cons]
        show (kOf v :: _).Perm _
        rw [kOf_is hv]
        exact T.pm.cons k
    refine wpAny_bind (hgw _ ?_)
    by_cases hp : t1.plain = true
    · rw [if_pos hp]
      refine wpAny_bind ?_
      rw [hashByValue_scannable 8 hsc]
      refine wpAny_pure (sk_tail (ks := insK ks k) ?_ ho hex hd ?_ ?_)
      · intro b s1 Q' q
        cases b
        · exact wpAny_pure q
        · exact wpAny_rule q
      · first
          | exact mk _ f1 rfl rfl
          | exact mk _ (SetTable.fits_plain_off f1) rfl rfl
          | (split
             · exact mk _ f1 rfl rfl
             · exact mk _ (SetTable.fits_plain_off f1) rfl rfl)
      · intro h' sb r
        dsimp only
        exact wpAny_pure (hQ h' _ sb r)
    · rw [if_neg hp]
      refine wpAny_bind (wpAny_pure ?_)
      simp only [↓reduceIte]
      refine sk_tail (ks := insK ks k) ?_ ho hex hd (mk _ f1 rfl rfl) ?_
      · intro b s1 Q' q
        cases b
        · exact wpAny_pure q
        · exact wpAny_rule q
      · intro h' sb r
        dsimp only
        exact wpAny_pure (hQ h' _ sb r)
end
end Mir

set_option Elab.async false
set_option linter.all false
set_option maxRecDepth 100000
set_option maxHeartbeats 8000000
/-! Mir, part Sb: set(list), set(tuple). -/
namespace Mir
open PySem PySem.Spec PyProof.Rows L2
section
variable {P : Program} {w : World} {A : Around} {E : Value → Shared → Prop} {s : Shared}
/-- what is laid while a list of keys is gone through -/
def Laid (w : World) (h : Heap) (S : Addr) (xs : List Key) (i : Nat) : Prop := ∃ L, SK w h S L ∧ L.length ≤ i ∧ ∀ k, k ∈ L ↔ k ∈ xs.take i
theorem Laid.at {h h' : Heap} {S : Addr} {xs : List Key} {i : Nat} (R : Laid w h S xs i) (k : ∀ o, h.get? S = some o → h'.get? S = some o) : Laid w h' S xs i := by
  obtain ⟨L, r, q⟩ := R
  exact ⟨L, r.at k, q⟩
theorem sk_loop {I : Addr} {fp wr : List Addr} {G : Array GenState → Array GenState → Prop} {n : Nat} {Pv : Nat → Value → Prop} {St : Nat → Shared → Prop} {R : Result → Shared → Prop} (W : WalksS P w A.in1 I fp wr G n Pv St) (S : Addr) (hSf : S ∉ fp)
    (xs : List Key) (hn : n = xs.length) (hb : xs.length + 1 < scanBound) (hval : ∀ i v, Pv i v → ∃ k, xs[i]? = some k ∧ keyIs k v = true) :
    ∀ (k i : Nat) (s : Shared), n - i = k → i ≤ n → St i s → Laid w s.heap S xs i → (∀ s', Moved (S :: wr) G s s' → Laid w s'.heap S xs n → R (.ok (.ret .none)) s') →
      codeAny (model P w) A (.builtin "set.update.loop" ⟨[.ref S, .ref I], []⟩) R s := by
  have hw0 : S ∉ wr := fun h => hSf (W.sub _ h)
  have hw1 : ∀ b ∈ wr, b ∈ S :: wr := fun b hb => List.mem_cons_of_mem _ hb
  intro k
  induction k with
  | zero =>
    intro i s h1 h2 st L hR
    obtain rfl : i = n := by omega
    refine codeAny_builtin F.entry_set_update_loop ?_
    rw [Around.under_plainId F.plain_set_update_loop _]
    show wpAny _ A.in1 (pyNext (.ref I) >>= _) _ _ s
    exact wpAny_bind (W.done s _ _ st fun s' hm => wpAny_pure (hR s' (hm.mono hw1) (L.at fun o e => hm.heap S o hw0 e)))
  | succ k ih =>
    intro i s h1 h2 st L hR
    have hlt : i < n := by omega
    refine codeAny_builtin F.entry_set_update_loop ?_
    rw [Around.under_plainId F.plain_set_update_loop _]
    show wpAny _ A.in1 (pyNext (.ref I) >>= _) _ _ s
    refine wpAny_bind (W.item i s _ _ hlt st fun v s' hP st' hm => ?_)
    obtain ⟨z, hz, hv⟩ := hval i v hP
    obtain ⟨ks, hS, hkl, hkm⟩ : Laid w s'.heap S xs i := L.at fun o e => hm.heap S o hw0 e
    show wpAny _ A.in1 (holding [v] (setAdd S v) >>= _) _ _ s'
    refine wpAny_bind (wpAny_holding ?_)
    unfold setAdd
    refine wpAny_holding (wpAny_bind ((mixKind P w).pyHash (k := z) hv ?_))
    refine sk_add (s := { s' with toks := s'.toks + 1 }) hv hS (by omega) fun h' b hsb hS2 => ?_
    have L2' : Laid w h' S xs (i + 1) := ⟨_, hS2, Nat.le_trans len_insK (by omega), fun j => by
      rw [mem_insK, hkm, List.take_add_one, hz]
      simp [List.mem_append]⟩
    refine wpAny_pure ⟨plainId_quiet F.plain_set_update_loop _, ih (i + 1) _ (by omega) hlt (W.frame _ s' _ _ st' (Nat.le_succ _) fun c hc o e => ?_) L2' fun s'' hm'' L'' => ?_⟩
    · have hne : c ≠ S := fun q => hSf (q ▸ hc)
      exact (hsb.2 c hne).trans e
    · refine hR s'' (Moved.trans W.gtrans ((hm.mono hw1).then_heap (Nat.le_succ _) fun c o hc e => ?_) hm'') L''
      have hne : c ≠ S := fun q => hc (q ▸ List.mem_cons_self)
      exact (hsb.2 c hne).trans e
/-- what there is behind set(x): the set at the next place, all else as it was -/
def SetMade (w : World) (s : Shared) (xs : List Key) (Q : Value → Shared → Prop) : Prop := ∀ (h' : Heap) (tk : Nat) (L : List Key), SK w h' s.heap.objs.size L → (∀ k, k ∈ L ↔ k ∈ xs) → (∀ b o, s.heap.get? b = some o → h'.get? b = some o) → Q (.ref s.heap.objs.size) { s with heap := h', toks := tk }
def after (w : World) (s : Shared) (xs : List Key) (r : Value) (s2 : Shared) : Prop := r = .none ∧ ∃ h' tk L, s2 = { s with heap := h', toks := tk } ∧ SK w h' s.heap.objs.size L ∧ (∀ k, k ∈ L ↔ k ∈ xs) ∧ ∀ b o, s.heap.get? b = some o → h'.get? b = some o
/-- the call, if the filling goes so -/
theorem set_call {x : Value} {xs : List Key} {Q : Value → Shared → Prop} (hfill : Shared.TypeIs { s with heap := s.heap.push (nset w) } (.ref s.heap.objs.size) "set" →
      codeAny (model P w) A.in1 (.call (.builtin "set.__init__") ⟨[.ref s.heap.objs.size, x], []⟩) (wants (after w s xs) E) { s with heap := s.heap.push (nset w) }) (h : SetMade w s xs Q) :
    wpAny (model P w) A (call (.type "set") [x]) Q E s := by
  have c0 := F.called_set
  obtain ⟨c, tl, hmro⟩ := c0.mro
  have hmade := c0.made
  have hsub := c0.sub
  refine wpAny_call (codeAny_of_tree ?_)
  refine wpAny_pure ⟨Code.quiet_builtin _ (by decide +kernel), codeAny_builtin F.entry_type_call ?_⟩
  rw [Around.under_plain (weight_type_call_type "set" [x] []) rfl]
  have a1 := c0.notType
  have a2 := c0.canCreate
  have a3 := F.typeCall_set_1 x
  repeat (any_goals (first | assumption | wp_step))
  refine codeAny_mono (code_set_led1 x (E := E) (Q₁ := fun ob s1 => ob = .ref s.heap.objs.size ∧ s1 = { s with heap := s.heap.push (nset w) }) ⟨rfl, rfl⟩) fun r s1 hr => ?_
  rcases r with e | fl
  · exact hr
  cases fl with
  | next => exact hr.elim
  | brk => exact hr.elim
  | cont => exact hr.elim
  | ret ob =>
    obtain ⟨rfl, rfl⟩ := hr
    have hS : (s.heap.push (nset w)).get? s.heap.objs.size = some (nset w) := Heap.get?_push_size _ rfl
    have hT : Shared.TypeIs { s with heap := s.heap.push (nset w) } (.ref s.heap.objs.size) "set" := ⟨_, hS, rfl⟩
    have b1 := c0.init.lookup
    have b2 := c0.init.bind (.ref s.heap.objs.size)
    repeat (any_goals (first | assumption | wp_step))
    refine codeAny_mono (hfill hT) fun r2 s2 hr2 => ?_
    rcases r2 with e | fl2
    · exact hr2
    cases fl2 with
    | next => exact hr2.elim
    | brk => exact hr2.elim
    | cont => exact hr2.elim
    | ret r =>
      obtain ⟨rfl, h', tk, L, rfl, k1, k2, k3⟩ := hr2
      repeat (any_goals (first | assumption | wp_step))
      exact h h' tk L k1 k2 k3
end
end Mir

set_option Elab.async false
set_option linter.all false
set_option maxRecDepth 100000
set_option maxHeartbeats 8000000
/-! Mir, part Sc: set(list), set(tuple): the filling. -/
namespace Mir
open PySem PySem.Spec PyProof.Rows L2
def KeysAt (items : Array Value) (xs : List Key) : Prop := items.size = xs.length ∧ ∀ (i : Nat) (v : Value), items[i]? = some v → ∃ k, xs[i]? = some k ∧ keyIs k v = true
section
variable {P : Program} {w : World} {A : Around} {E : Value → Shared → Prop} {s : Shared}
/-- the loop's end is what is wanted -/
theorem fill_end {I l : Addr} {xs : List Key} {s0 s' : Shared} (hI : I = s.heap.objs.size + 1) (h0 : ∀ b o, s.heap.get? b = some o → s0.heap.get? b = some o) (g0 : s0.gens = s.gens) (d0 : s0.drawn = s.drawn) (e0 : s0.os = s.os)
    (hm : Moved (s.heap.objs.size :: [I]) (fun a b => b = a) s0 s') (L : Laid w s'.heap s.heap.objs.size xs xs.length) : after w s xs .none s' := by
  obtain ⟨ks, r, _, q⟩ := L
  obtain ⟨h', g', d', t', o'⟩ := s'
  have eg : g' = s.gens := Eq.trans hm.gens g0
  have ed : d' = s.drawn := Eq.trans hm.drawn d0
  have eo : o' = s.os := Eq.trans hm.os e0
  subst eg ed eo
  refine ⟨rfl, h', t', ks, rfl, r, fun k => (q k).trans (by rw [List.take_of_length_le (Nat.le_refl _)]), fun b o e => ?_⟩
  have hb := Heap.lt_size e
  refine hm.heap b o (fun z => ?_) (h0 b o e)
  rcases List.mem_cons.mp z with z | z
  · exact absurd hb (by rw [z]; exact Nat.lt_irrefl _)
  · rw [List.mem_singleton.mp z, hI] at hb
    exact absurd hb (Nat.not_lt_of_le (Nat.le_succ _))
theorem fill_list {l : Addr} {items : Array Value} {xs : List Key} (hh : A.handled = none) (hl : s.heap.IsList l items) (hk : KeysAt items xs) (hb : xs.length + 1 < scanBound) (hT : Shared.TypeIs { s with heap := s.heap.push (nset w) } (.ref s.heap.objs.size) "set") :
    codeAny (model P w) A.in1 (.call (.builtin "set.__init__") ⟨[.ref s.heap.objs.size, .ref l], []⟩) (wants (after w s xs) E) { s with heap := s.heap.push (nset w) } := by
  refine codeAny_call_builtin F.called_set.init.plain F.entry_set_init (check_set_init_1 hT ?_)
  have l1 : (s.heap.push (nset w)).IsList l items := hl.push _
  obtain ⟨ol, hol, hcl, nl, hdl⟩ := hl
  obtain ⟨oc, od, odt, osl⟩ := ol
  simp only at hcl hdl
  subst hcl hdl
  have hol' : (s.heap.push (nset w)).get? l = some { cls := .type "list", dict := od, data := .seq items nl, slots := osl } := Heap.get?_push_of_some _ hol
  have s1 := F.sub_list_set
  have s2 := F.sub_list_frozenset
  have s3 : (Value.type "list" == Value.type "dict") = false := by decide
  have hlS : l < s.heap.objs.size := Heap.lt_size hol
  have hz1 : (s.heap.push (nset w)).objs.size = s.heap.objs.size + 1 := Heap.size_push ..
  have hneI : l ≠ (s.heap.push (nset w)).objs.size := by rw [hz1]; exact Nat.ne_of_lt (Nat.lt_succ_of_lt hlS)
  have hSf : s.heap.objs.size ∉ [(s.heap.push (nset w)).objs.size, l] := by
    rw [hz1]
    intro z
    rcases List.mem_cons.mp z with z | z
    · exact Nat.ne_of_lt (Nat.lt_succ_self _) z
    · exact Nat.ne_of_gt hlS (List.mem_singleton.mp z)
  have hh3 : A.in1.in1.in1.handled = none := by simp [hh]
  unfold Builtin.«set.__init__» noKeywords Builtin.Frozenset.updateFrom
  generalize hPI : pyIter = PI
  wp_walk
  subst hPI
  refine wpAny_pyIter_list l1 (wpAny_bind (wpAny_runValue ?_))
  have hget := Heap.get?_push_of_some { cls := .type "list_iterator", data := .fields #[.ref l, .int 0 0] } (show (s.heap.push (nset w)).get? s.heap.objs.size = some (nset w) from Heap.get?_push_size _ rfl)
  refine sk_loop ((Walks.list hh3 _ l hneI items).toS) s.heap.objs.size hSf xs hk.1 hb hk.2 (items.size - 0) 0 _ (by omega) (Nat.zero_le _) ⟨⟨_, Heap.get?_push_size _ rfl, rfl, rfl⟩, l1.push _⟩ ⟨[], SK.new hget, Nat.le_refl _, fun k => by simp⟩ fun s' hm L => ?_
  rw [hk.1] at L
  refine wpAny_pure (wpAny_pure ?_)
  refine fill_end (s := s) (l := l) hz1 ?_ ?_ ?_ ?_ hm L
  · exact fun b o e => Heap.get?_push_of_some _ (Heap.get?_push_of_some _ e)
  · rfl
  · rfl
  · rfl
theorem fill_tup {l : Addr} {items : Array Value} {xs : List Key} (hh : A.handled = none) (hl : s.heap.IsTuple l items) (hk : KeysAt items xs) (hb : xs.length + 1 < scanBound) (hT : Shared.TypeIs { s with heap := s.heap.push (nset w) } (.ref s.heap.objs.size) "set") :
    codeAny (model P w) A.in1 (.call (.builtin "set.__init__") ⟨[.ref s.heap.objs.size, .ref l], []⟩) (wants (after w s xs) E) { s with heap := s.heap.push (nset w) } := by
  refine codeAny_call_builtin F.called_set.init.plain F.entry_set_init (check_set_init_1 hT ?_)
  have l1 : (s.heap.push (nset w)).IsTuple l items := hl.push _
  obtain ⟨ol, hol, hcl, nl, hdl⟩ := hl
  obtain ⟨oc, od, odt, osl⟩ := ol
  simp only at hcl hdl
  subst hcl hdl
  have hol' : (s.heap.push (nset w)).get? l = some { cls := .type "tuple", dict := od, data := .seq items nl, slots := osl } := Heap.get?_push_of_some _ hol
  have s1 := F.sub_tuple_set
  have s2 := F.sub_tuple_frozenset
  have s3 : (Value.type "tuple" == Value.type "dict") = false := by decide
  have hlS : l < s.heap.objs.size := Heap.lt_size hol
  have hz1 : (s.heap.push (nset w)).objs.size = s.heap.objs.size + 1 := Heap.size_push ..
  have hneI : l ≠ (s.heap.push (nset w)).objs.size := by rw [hz1]; exact Nat.ne_of_lt (Nat.lt_succ_of_lt hlS)
  have hSf : s.heap.objs.size ∉ [(s.heap.push (nset w)).objs.size, l] := by
    rw [hz1]
    intro z
    rcases List.mem_cons.mp z with z | z
    · exact Nat.ne_of_lt (Nat.lt_succ_self _) z
    · exact Nat.ne_of_gt hlS (List.mem_singleton.mp z)
  have hh3 : A.in1.in1.in1.handled = none := by simp [hh]
  unfold Builtin.«set.__init__» noKeywords Builtin.Frozenset.updateFrom
  generalize hPI : pyIter = PI
  wp_walk
  subst hPI
  refine wpAny_pyIter_tuple l1 (wpAny_bind (wpAny_runValue ?_))
  have hget := Heap.get?_push_of_some { cls := .type "tuple_iterator", data := .fields #[.ref l, .int 0 0] } (show (s.heap.push (nset w)).get? s.heap.objs.size = some (nset w) from Heap.get?_push_size _ rfl)
  refine sk_loop ((Walks.tuple hh3 _ l hneI items).toS) s.heap.objs.size hSf xs hk.1 hb hk.2 (items.size - 0) 0 _ (by omega) (Nat.zero_le _) ⟨⟨_, Heap.get?_push_size _ rfl, rfl, rfl⟩, l1.push _⟩ ⟨[], SK.new hget, Nat.le_refl _, fun k => by simp⟩ fun s' hm L => ?_
  rw [hk.1] at L
  refine wpAny_pure (wpAny_pure ?_)
  refine fill_end (s := s) (l := l) hz1 ?_ ?_ ?_ ?_ hm L
  · exact fun b o e => Heap.get?_push_of_some _ (Heap.get?_push_of_some _ e)
  · rfl
  · rfl
  · rfl
end
end Mir

set_option Elab.async false
set_option linter.all false
set_option maxRecDepth 100000
set_option maxHeartbeats 8000000
/-! Mir, part Sd: set, len(set), sorted(set) as rules. -/
namespace Mir
open PySem PySem.Spec PyProof.Rows L2
theorem relKey {k : Key} {v : Value} (r : RelV (kV k) v) : keyIs k v = true := by
  cases k with
  | inl i => obtain ⟨t, rfl⟩ := r; exact keyIs_int i t
  | inr x => obtain ⟨t, rfl⟩ := r; exact keyIs_str x t
theorem keysAt_of {ks : List Key} {its : List Value} (r : Vals (ks.map kV) its) : KeysAt its.toArray ks := by
  have hl := r.length
  rw [List.length_map] at hl
  refine ⟨by simp [hl], fun i v hv => ?_⟩
  have hv : its[i]? = some v := by simpa using hv
  cases hk : ks[i]? with
  | none =>
    have := List.getElem?_eq_none_iff.mp hk
    rw [List.getElem?_eq_none_iff.mpr (by omega)] at hv
    cases hv
  | some k =>
    obtain ⟨u, h1, h2⟩ := r.get (i := i) (x := kV k) (by rw [List.getElem?_map, hk]; rfl)
    rw [hv] at h1
    cases h1
    exact ⟨k, rfl, relKey h2⟩
/-- the set with the keys ks, tracked -/
def SetKO (w : World) (a : Addr) (ks : List Key) : HO := .ext fun h => SK w h a ks
theorem setKO_new {w : World} {P : Program} {H : Hp} {h : Heap} {a : Addr} {ks : List Key} (R : SK w h a ks) : ObjOk P w H h a (SetKO w a ks) := by
  have ⟨o, _, _, _, ho, _⟩ := R
  exact ⟨R, ⟨o, ho⟩, fun _ _ p k => SK.at p k⟩
section
variable {X : Cx}
def rSetK (K : PySem.W.Frag) (w : World) : List V → Hp → VK → Prop := fun xs H Q => ∃ (l : Addr) (ks : List Key), xs = [V.ref l] ∧ (SqL K H l (ks.map kV) ∨ SqT K H l (ks.map kV)) ∧ ks.length + 1 < scanBound ∧
  ∀ (a : Addr) (L : List Key), H a = none → L.Nodup → (∀ k, k ∈ L ↔ k ∈ ks) → Q (.ref a) (upd H a (SetKO w a L))
theorem SK.nodup {w : World} {h : Heap} {a : Addr} {ks : List Key} (R : SK w h a ks) : ks.Nodup := by
  obtain ⟨_, _, _, _, _, _, _, T⟩ := R
  exact T.nd
theorem cr_setK (hc : X.calm = true) : CallR X (.type "set") (rSetK X.K X.w) := by
  intro pins s σ H xs us Q I r h
  obtain ⟨l, ks, rfl, hq, hb, q⟩ := h
  rw [Vals.ref1 r]
  have fin : SetMade X.w s ks (EP X pins σ Q) := fun h' tk L hS hm hk => ⟨.ref _, upd H s.heap.objs.size (SetKO X.w s.heap.objs.size L), I.laid (t' := tk) hk (Nat.le_refl _) (setKO_new hS), rfl, q _ L (I.hok.fresh (Nat.le_refl _)) hS.nodup hm⟩
  rcases hq with hq | hq
  · obtain ⟨its, rv, hl, _⟩ := I.list hq
    exact set_call (fun hT => fill_list (I.ok.hd hc) hl.isList (keysAt_of rv) hb hT) fin
  · obtain ⟨its, rv, hl, _⟩ := I.tuple hq
    exact set_call (fun hT => fill_tup (I.ok.hd hc) hl (keysAt_of rv) hb hT) fin
def rLenK (w : World) : List V → Hp → VK → Prop := fun xs H Q => ∃ (a : Addr) (L : List Key), xs = [V.ref a] ∧ H a = some (SetKO w a L) ∧ Q (.int L.length) H
theorem cr_lenK : CallR X (.builtin "len") (rLenK X.w) := by
  intro pins s σ H xs us Q I r h
  obtain ⟨a, L, rfl, ha, q⟩ := h
  rw [Vals.ref1 r]
  obtain ⟨o, es, ep, t, ho, hex, hd, T⟩ : SK X.w s.heap a L := (I.hok a _ ha).1
  have hz := T.len
  have hf := T.few
  refine call_len_set ho hex hd T.fit (by unfold scanBound at hf; omega) ⟨.int L.length, H, I.tok _, ⟨_, by rw [hz]⟩, q⟩
end
end Mir

set_option Elab.async false
set_option linter.all false
set_option maxRecDepth 100000
set_option maxHeartbeats 8000000
/-! Mir, part Se: sorted of ints and of texts, of any length: of lists, dicts, sets. -/
namespace Mir
open PySem PySem.Spec PyProof.Rows L2
/-! ### the order of texts -/
abbrev leT (x y : Str) : Prop := ltCps y.cps.toList x.cps.toList = false
theorem lt_irr : ∀ a : List Nat, ltCps a a = false
  | [] => rfl
  | c :: r => by show (decide (c < c) || (c == c && ltCps r r)) = false; rw [lt_irr r]; simp
theorem lt_tot : ∀ a b : List Nat, ltCps a b = false → ltCps b a = false → a = b
  | [], [], _, _ => rfl
  | [], _ :: _, h, _ => by cases h
  | _ :: _, [], _, h => by cases h
  | c :: r, d :: t, h1, h2 => by
    have h1 : (decide (c < d) || (c == d && ltCps r t)) = false := h1
    have h2 : (decide (d < c) || (d == c && ltCps t r)) = false := h2
    obtain ⟨a1, a2⟩ := Bool.or_eq_false_iff.mp h1
    obtain ⟨b1, b2⟩ := Bool.or_eq_false_iff.mp h2
    have e : c = d := by
      have := of_decide_eq_false a1
      have := of_decide_eq_false b1
      omega
    subst e
    simp only [beq_self_eq_true, Bool.true_and] at a2 b2
    rw [lt_tot r t a2 b2]
theorem lt_asy : ∀ a b : List Nat, ltCps a b = true → ltCps b a = false
  | [], [], h => by cases h
  | [], _ :: _, _ => rfl
  | _ :: _, [], h => by cases h
  | c :: r, d :: t, h => by
    have h : (decide (c < d) || (c == d && ltCps r t)) = true := h
    show (decide (d < c) || (d == c && ltCps t r)) = false
    rcases Bool.or_eq_true_iff.mp h with h | h
    · have h := of_decide_eq_true h
      rw [decide_eq_false (by omega), show (d == c) = false from beq_eq_false_iff_ne.mpr (by omega)]; rfl
    · obtain ⟨h1, h2⟩ := Bool.and_eq_true_iff.mp h
      have h1 := eq_of_beq h1
      subst h1
      rw [lt_asy r t h2]; simp
theorem lt_trn : ∀ a b c : List Nat, ltCps b a = false → ltCps c b = false → ltCps c a = false
  | [], [], _, _, h => h
  | [], _ :: _, [], _, _ => rfl
  | [], _ :: _, _ :: _, h, _ => rfl
  | _ :: _, [], _, h, _ => by cases h
  | _ :: _, _ :: _, [], _, h => by cases h
  | x :: a, y :: b, z :: c, h1, h2 => by
    have h1 : (decide (y < x) || (y == x && ltCps b a)) = false := h1
    have h2 : (decide (z < y) || (z == y && ltCps c b)) = false := h2
    show (decide (z < x) || (z == x && ltCps c a)) = false
    obtain ⟨a1, a2⟩ := Bool.or_eq_false_iff.mp h1
    obtain ⟨b1, b2⟩ := Bool.or_eq_false_iff.mp h2
    have a1 := of_decide_eq_false a1
    have b1 := of_decide_eq_false b1
    refine Bool.or_eq_false_iff.mpr ⟨decide_eq_false (by omega), ?_⟩
    by_cases e : z = x
    · have e2 : y = x := by omega
      subst e2
      subst e
      simp only [beq_self_eq_true, Bool.true_and] at a2 b2 ⊢
      exact lt_trn a b c a2 b2
    · rw [show (z == x) = false from beq_eq_false_iff_ne.mpr e]; rfl
theorem leT_tot (x y : Str) : leT x y ∨ leT y x := by
  cases h : ltCps y.cps.toList x.cps.toList with
  | false => exact .inl h
  | true => exact .inr (lt_asy _ _ h)
theorem str_ext {x y : Str} (h : x.cps.toList = y.cps.toList) : x = y := by
  cases x; cases y
  simp only [Str.mk.injEq]
  exact Array.toList_inj.mp h
theorem leT_anti {x y : Str} (h1 : leT x y) (h2 : leT y x) : x = y := str_ext (lt_tot _ _ h2 h1)
theorem leT_trans {x y z : Str} (h1 : leT x y) (h2 : leT y z) : leT x z := lt_trn _ _ _ h1 h2
def insT (x : Str) : List Str → List Str
  | [] => [x]
  | y :: r => if ltCps y.cps.toList x.cps.toList = true then y :: insT x r else x :: y :: r
def sortT : List Str → List Str
  | [] => []
  | x :: r => insT x (sortT r)
theorem insT_perm (x : Str) : ∀ l : List Str, (insT x l).Perm (x :: l)
  | [] => .refl _
  | y :: r => by
    unfold insT
    split
    · exact ((insT_perm x r).cons y).trans (.swap x y r)
    · exact .refl _
theorem sortT_perm : ∀ l : List Str, (sortT l).Perm l
  | [] => .refl _
  | x :: r => (insT_perm x (sortT r)).trans ((sortT_perm r).cons x)
theorem insT_rises {x : Str} : ∀ {l : List Str}, l.Pairwise leT → (insT x l).Pairwise leT
  | [], _ => List.pairwise_singleton _ _
  | y :: r, h => by
    obtain ⟨h1, h2⟩ := List.pairwise_cons.mp h
    unfold insT
    split
    · rename_i hxy
      refine List.pairwise_cons.mpr ⟨fun z hz => ?_, insT_rises h2⟩
      rcases List.mem_cons.mp ((insT_perm x r).mem_iff.mp hz) with e | e
      · rw [e]; exact lt_asy _ _ hxy
      · exact h1 z e
    · rename_i hxy
      have hxy : leT x y := by
        cases q : ltCps y.cps.toList x.cps.toList with
        | false => exact q
        | true => exact absurd q hxy
      refine List.pairwise_cons.mpr ⟨fun z hz => ?_, h⟩
      rcases List.mem_cons.mp hz with e | e
      · rw [e]; exact hxy
      · exact leT_trans hxy (h1 z e)
theorem sortT_rises : ∀ l : List Str, (sortT l).Pairwise leT
  | [] => .nil
  | x :: r => insT_rises (sortT_rises r)
theorem sortT_uniq {ys l : List Str} (h : ys.Perm l) (h2 : ys.Pairwise leT) : ys = sortT l :=
  List.Perm.eq_of_pairwise (fun _ _ _ _ a b => leT_anti a b) h2 (sortT_rises l) (h.trans (sortT_perm l).symm)
theorem rising_pw : ∀ (r : List Str) (p : Str), risingS p r = true → (p :: r).Pairwise leT
  | [], p, _ => List.pairwise_singleton _ _
  | x :: r, p, h => by
    have h : (!ltCps x.cps.toList p.cps.toList && risingS x r) = true := h
    obtain ⟨h1, h2⟩ := Bool.and_eq_true_iff.mp h
    have ih := rising_pw r x h2
    have hpx : leT p x := by simpa using h1
    refine List.pairwise_cons.mpr ⟨fun z hz => ?_, ih⟩
    rcases List.mem_cons.mp hz with e | e
    · rw [e]; exact hpx
    · exact leT_trans hpx ((List.pairwise_cons.mp ih).1 z e)
theorem sortedS_pw {l : List Str} (h : sortedS l = true) : l.Pairwise leT := by
  cases l with
  | nil => exact .nil
  | cons x r => exact rising_pw r x h
/-! ### keys -/
def intsK : List Key → Option (List Int)
  | [] => some []
  | .inl i :: r => (intsK r).map (i :: ·)
  | .inr _ :: _ => none
def strsK : List Key → Option (List Str)
  | [] => some []
  | .inr x :: r => (strsK r).map (x :: ·)
  | .inl _ :: _ => none
theorem intsK_ok : ∀ {ks : List Key} {is : List Int}, intsK ks = some is → ks = is.map Sum.inl
  | [], _, h => by cases h; rfl
  | .inl i :: r, is, h => by
    have h : (intsK r).map (i :: ·) = some is := h
    cases z : intsK r with
    | none => rw [z] at h; cases h
    | some js => rw [z] at h; cases h; rw [intsK_ok z]; rfl
  | .inr _ :: _, _, h => by cases h
theorem strsK_ok : ∀ {ks : List Key} {is : List Str}, strsK ks = some is → ks = is.map Sum.inr
  | [], _, h => by cases h; rfl
  | .inr i :: r, is, h => by
    have h : (strsK r).map (i :: ·) = some is := h
    cases z : strsK r with
    | none => rw [z] at h; cases h
    | some js => rw [z] at h; cases h; rw [strsK_ok z]; rfl
  | .inl _ :: _, _, h => by cases h
/-- keys in order: of ints, of texts -/
def sortK (ks : List Key) : Option (List Key) := match intsK ks with
  | some is => some ((sortI is).map Sum.inl)
  | none => (strsK ks).map fun xs => (sortT xs).map Sum.inr
theorem perm_map_inj {α β : Type} {f : α → β} (hf : ∀ a b, f a = f b → a = b) {l : List β} {xs : List α} (h : l.Perm (xs.map f)) : ∃ ys : List α, l = ys.map f ∧ ys.Perm xs := by
  obtain ⟨g, hg⟩ : ∃ ys : List α, l = ys.map f := by
    clear hf
    have : ∀ b ∈ l, ∃ a, f a = b := fun b hb => by
      obtain ⟨a, _, e⟩ := List.mem_map.mp (h.mem_iff.mp hb)
      exact ⟨a, e⟩
    clear h
    induction l with
    | nil => exact ⟨[], rfl⟩
    | cons b l ih =>
      obtain ⟨a, e⟩ := this b List.mem_cons_self
      obtain ⟨ys, ey⟩ := ih fun c hc => this c (List.mem_cons_of_mem _ hc)
      exact ⟨a :: ys, by rw [List.map_cons, e, ey]⟩
  subst hg
  refine ⟨g, rfl, ?_⟩
  classical
  induction g generalizing xs with
  | nil =>
    have := h.length_eq
    cases xs with
    | nil => exact .refl _
    | cons x xs => simp at this
  | cons a g ih =>
    have hm : f a ∈ xs.map f := h.mem_iff.mp (by simp)
    obtain ⟨a', ha', e⟩ := List.mem_map.mp hm
    have := hf _ _ e
    subst this
    obtain ⟨l1, l2, rfl⟩ := List.append_of_mem ha'
    have h' : (g.map f).Perm ((l1 ++ l2).map f) := by
      have h2 : (f a' :: g.map f).Perm (f a' :: (l1 ++ l2).map f) := by
        refine (show (f a' :: g.map f).Perm ((l1 ++ a' :: l2).map f) from h).trans ?_
        rw [List.map_append, List.map_cons, List.map_append]
        exact List.perm_middle
      exact h2.cons_inv
    exact ((ih h').cons a').trans List.perm_middle.symm
section
variable {P : Program} {w : World} {A : Around} {E : Value → Shared → Prop} {s : Shared}
theorem ints_at {vs : List Value} {is : List Int} (h : KeysAt vs.toArray (is.map Sum.inl)) : IntsAre vs is := by
  obtain ⟨hl, h⟩ := h
  have hl : vs.length = is.length := by simpa using hl
  exact ints_each hl fun j v e => by
    obtain ⟨k, h1, h2⟩ := h j v (by simpa using e)
    rw [List.getElem?_map] at h1
    cases hi : is[j]? with
    | none => rw [hi] at h1; cases h1
    | some i =>
      rw [hi] at h1
      cases h1
      obtain ⟨t, e⟩ := Value.isInt_shape (k := i) (v := v) h2
      exact ⟨i, t, rfl, e⟩
theorem strs_each : ∀ {vs : List Value} {xs : List Str}, vs.length = xs.length → (∀ (j : Nat) (v : Value), vs[j]? = some v → ∃ x t, xs[j]? = some x ∧ v = .str x t) → StrsAre vs xs
  | [], [], _, _ => .nil
  | [], _ :: _, h, _ => by simp at h
  | _ :: _, [], h, _ => by simp at h
  | v :: vs, x :: xs, h, k => by
    obtain ⟨y, t, h1, h2⟩ := k 0 v rfl
    cases h1
    subst h2
    exact .cons x t (strs_each (by simpa using h) fun j u e => k (j + 1) u (by simpa using e))
theorem strs_at' {vs : List Value} {is : List Str} (h : KeysAt vs.toArray (is.map Sum.inr)) : StrsAre vs is := by
  obtain ⟨hl, h⟩ := h
  have hl : vs.length = is.length := by simpa using hl
  exact strs_each hl fun j v e => by
    obtain ⟨k, h1, h2⟩ := h j v (by simpa using e)
    rw [List.getElem?_map] at h1
    cases hi : is[j]? with
    | none => rw [hi] at h1; cases h1
    | some i =>
      rw [hi] at h1
      cases h1
      obtain ⟨t, e⟩ := Value.isStrOf_shape (x := i) (v := v) h2
      exact ⟨i, t, rfl, e⟩
theorem map_kV_inl (is : List Int) : (is.map (Sum.inl : Int → Key)).map kV = is.map V.int := by rw [List.map_map]; rfl
theorem map_kV_inr (is : List Str) : (is.map (Sum.inr : Str → Key)).map kV = is.map V.str := by rw [List.map_map]; rfl
/-- what stands as it stood -/
structure Kept (s s1 : Shared) : Prop where
  k : ∀ b o, s.heap.get? b = some o → s1.heap.get? b = some o
  g : s1.gens = s.gens
  o : s1.os = s.os
/-- sorted(x), x by what it is gone through as -/
theorem sorted_keys {x : Value} {ks ys : List Key} {Q : Value → Shared → Prop} (hy : sortK ks = some ys) (hz : ks.length ≤ sizeLine)
    (hcol : wpAny (model P w) A.in1 (collect x) (fun vs s1 => Kept s s1 ∧ ∃ ks', ks'.Perm ks ∧ KeysAt vs.toArray ks') E s)
    (hQ : ∀ s1 s' p (out : Array Value) (c : Nat), Kept s s1 → Kept s1 s' → s1.heap.objs.size ≤ p → s'.heap.get? p = some (seqObj "list" out c) → Vals (ys.map kV) out.toList → Q (.ref p) s') :
    wpAny (model P w) A (call (.builtin "sorted") [x]) Q E s := by
  refine Calls.call_function_entry kind_sorted plain_sorted entry_sorted (args_sorted1 _) ?_
  unfold Builtin.«sorted»
  refine wpAny_bind (m := checkCount "sorted" 1 1 _) (wpAny_pure (wpAny_bind ?_))
  refine wpAny_mono hcol (fun vs s1 hc => ?_) fun _ _ z => z
  obtain ⟨K1, ks', hp, hk⟩ := hc
  have hvl : vs.length = ks.length := by
    have := hk.1
    simp only [List.size_toArray] at this
    rw [this, hp.length_eq]
  refine wpAny_bind (wpAny_newList ?_ (by rw [hvl]; exact hz))
  have hoL : (s1.heap.push (seqObj "list" vs.toArray 0)).get? s1.heap.objs.size = some (seqObj "list" vs.toArray 0) := Heap.get?_push_size _ rfl
  have fin : ∀ out : Array Value, Vals (ys.map kV) out.toList → Q (.ref s1.heap.objs.size) { s1 with heap := sortedHeap (s1.heap.push (seqObj "list" vs.toArray 0)) s1.heap.objs.size vs out } := fun out hv => by
    obtain ⟨c, hc⟩ := sortedHeap_at (vs := vs) (out := out) hoL
    refine hQ s1 _ s1.heap.objs.size out c K1 ⟨fun b u q => ?_, rfl, rfl⟩ (Nat.le_refl _) hc hv
    have hlt := Heap.lt_size q
    show (sortedHeap (s1.heap.push (seqObj "list" vs.toArray 0)) s1.heap.objs.size vs out).get? b = some u
    rw [sortedHeap_old (Nat.ne_of_lt hlt) (by rw [size_push']; exact Nat.lt_succ_of_lt hlt)]
    exact Heap.get?_push_of_some _ q
  unfold sortK at hy
  cases hi : intsK ks with
  | some is =>
    rw [hi] at hy
    cases hy
    have e := intsK_ok hi
    rw [e] at hp
    obtain ⟨is', e2, hp2⟩ := perm_map_inj (fun a b h => Sum.inl.inj h) hp
    subst e2
    refine wpAny_bind (wpAny_holding (wpAny_call_entry slot_list_sort ⟨_, hoL, rfl⟩ entry_list_sort (list_sort_treeAny hoL (ints_at hk) (by rw [hvl]; exact hz) fun out (ns : List Int) a1 a2 a3 => ⟨_, rfl, ?_⟩) (args_list_sort _)))
    refine wpAny_pure ⟨_, rfl, fin out ?_⟩
    rw [map_kV_inl, ← sortI_uniq (a2.trans hp2) a3]
    exact vals_of_ints a1
  | none =>
    rw [hi] at hy
    have hy : (strsK ks).map (fun xs => (sortT xs).map Sum.inr) = some ys := hy
    cases hs : strsK ks with
    | none => rw [hs] at hy; cases hy
    | some xs =>
      rw [hs] at hy
      cases hy
      have e := strsK_ok hs
      rw [e] at hp
      obtain ⟨xs', e2, hp2⟩ := perm_map_inj (fun a b h => Sum.inr.inj h) hp
      subst e2
      have hS := strs_at' hk
      refine wpAny_bind (wpAny_holding (wpAny_call_entry slot_list_sort ⟨_, hoL, rfl⟩ entry_list_sort (list_sort_treeKAny strKind_oneLt hoL hS.keysOf (fun v1 v2 rest e => keyKind_strs (by rw [← e]; exact hS)) (by rw [hvl]; exact hz) fun st' hp' hs' => ⟨_, rfl, ?_⟩) (args_list_sort _)))
      obtain ⟨ss, b1, b2, b3⟩ := sorted_out_str hS hp' hs'
      refine wpAny_pure ⟨_, rfl, fin _ ?_⟩
      rw [map_kV_inr, ← sortT_uniq (b2.trans hp2) (sortedS_pw b3)]
      exact vals_of_strs b1
end
end Mir

set_option Elab.async false
set_option linter.all false
set_option maxRecDepth 100000
set_option maxHeartbeats 8000000
/-! Mir, part Sf: sorted as a rule. -/
namespace Mir
open PySem PySem.Spec PyProof.Rows L2
section
variable {X : Cx}
/-- what sorted goes through -/
def Goes (K : PySem.W.Frag) (w : World) (H : Hp) (a : Addr) (ks : List Key) : Prop :=
  SqL K H a (ks.map kV) ∨ (∃ kvs : List (Key × V), Rd H a (.dK kvs) ∧ kvs.map (·.1) = ks) ∨ ∃ L : List Key, H a = some (SetKO w a L) ∧ L.Perm ks
def rSortK (K : PySem.W.Frag) (w : World) : List V → Hp → VK → Prop := fun vs H Q => ∃ (a : Addr) (ks ys : List Key), vs = [V.ref a] ∧ sortK ks = some ys ∧ ks.length ≤ sizeLine ∧ Goes K w H a ks ∧ ∀ p, H p = none → Q (.ref p) (upd H p (.lst (ys.map kV)))
theorem sortK_len {ks ys : List Key} (h : sortK ks = some ys) : ys.length = ks.length := by
  unfold sortK at h
  cases hi : intsK ks with
  | some is =>
    rw [hi] at h
    cases h
    rw [intsK_ok hi, List.length_map, List.length_map, (sortI_perm is).length_eq]
  | none =>
    rw [hi] at h
    have h : (strsK ks).map (fun xs => (sortT xs).map Sum.inr) = some ys := h
    cases hs : strsK ks with
    | none => rw [hs] at h; cases h
    | some xs =>
      rw [hs] at h
      cases h
      rw [strsK_ok hs, List.length_map, List.length_map, (sortT_perm xs).length_eq]
theorem inv_keeps {pins : List (Addr × Obj)} {σ : St} {H : Hp} {s s1 : Shared} (I : Inv X pins σ H s) (h : Kept s s1) : Inv X pins σ H s1 :=
  I.call' (ch := []) h.o (Un.kept h.k) (I.hok.kept h.k) (by rw [h.g]; exact I.bare) (fun _ z => nomatch z)
theorem cr_sortK (hc : X.calm = true) : CallR X (.builtin "sorted") (rSortK X.K X.w) := by
  intro pins s σ H vs us Q I r h
  obtain ⟨a, ks, ys, rfl, hy, hz, hgo, q⟩ := h
  rw [Vals.ref1 r]
  refine sorted_keys hy hz ?_ fun s1 s' p out c K1 K2 hp hg hv => ?_
  · rcases hgo with hs | ⟨kvs, hd, hk⟩ | ⟨L, hS, hpm⟩
    · obtain ⟨its, rv, hl, _⟩ := I.list hs
      have hz' : its.length ≤ sizeLine := by rw [← rv.length, List.length_map]; exact hz
      refine collect_list hl.isList ⟨⟨fun b o e => ?_, rfl, rfl⟩, ks, .refl _, keysAt_of rv⟩ hz'
      exact (Heap.get?_update_other _ _ (Nat.ne_of_gt (Heap.lt_size e))).trans (Heap.get?_push_of_some _ e)
    · obtain ⟨z, lo, vs, rel, dd⟩ := dk_rd I.hok hd
      obtain ⟨ep, hat⟩ := dd.dictAt
      have hkeys : vs.map (·.1) = ks := rel.keys.symm.trans hk
      have hl : vs.length = ks.length := by rw [← hkeys, List.length_map]
      have h16 : vs.length ≤ sizeLine := by rw [hl]; exact hz
      refine PySem.W.kdu_collect (A := X.A.in1) (PySem.W.kdl_dict (knd := mixKind X.prog X.w) (kvs := vs) (ep := ep) lo) (I.ok.hd hc) hat h16 fun h' tk acc hk' hacc => ?_
      refine ⟨⟨hk', rfl, rfl⟩, ks, .refl _, ?_, fun j v e => ?_⟩
      · rw [List.size_toArray, Array.length_toList, hacc.1, hl]
      · obtain ⟨k, x, e1, e2⟩ := hacc.2 j v (by simpa using e)
        refine ⟨k, ?_, e2⟩
        rw [← hkeys, List.getElem?_map, e1]
        rfl
    · obtain ⟨o, es, ep, t, ho, hex, hd, T⟩ : SK X.w s.heap a L := (I.hok a _ hS).1
      refine collect_set (A := X.A.in1) (I.ok.hd hc) ⟨o, ho, hex.1, hd⟩ T.fit T.few T.ris T.led fun s1 out k1 hz1 g1 o1 pm => ?_
      have hrow : ∀ v ∈ out, keyIs (kOf v) v = true := fun v hv => by
        obtain ⟨e, he, rfl⟩ := List.mem_map.mp (pm.mem_iff.mp hv)
        exact (T.row e he).1
      refine ⟨⟨k1, g1, o1⟩, out.map kOf, ?_, by simp, fun j v e => ?_⟩
      · have q := pm.map kOf
        rw [List.map_map] at q
        exact (q.trans T.pm).trans hpm
      · have e : out[j]? = some v := by simpa using e
        exact ⟨kOf v, by rw [List.getElem?_map, e]; rfl, hrow v (List.mem_of_getElem? e)⟩
  · have I1 := inv_keeps I K1
    have hn : H p = none := I1.hok.fresh hp
    have hlen : (ys.map kV).length ≤ sizeLine := by rw [List.length_map, sortK_len hy]; exact hz
    have J : Inv X pins σ (upd H p (.lst (ys.map kV))) s' := I1.call' (ch := []) K2.o (Un.laid K2.k hp hn) (I1.hok.laid K2.k hp ⟨hlen, out.toList, c, hv, hg⟩) (by rw [K2.g]; exact I1.bare) (fun _ z => nomatch z)
    exact ⟨.ref p, _, J, rfl, q p hn⟩
end
end Mir

set_option Elab.async false
set_option linter.all false
set_option maxRecDepth 100000
set_option maxHeartbeats 4000000
/-! Mir, part Sg: sorted(x), sorted(set(x)), len(set(x)) in mirrors. -/
namespace Mir
open PySem PySem.Spec PyProof.Rows L2
/-- the items of a list -/
def seqL (s : Sto) : D → Option (List D)
  | .lst xs => some xs
  | .scr ns => some (ns.map D.int)
  | .obj n => match s[n]? with
    | some (.lst xs) => some xs
    | _ => none
  | _ => none
/-- .. of a list or tuple -/
def seqA (s : Sto) : D → Option (List D)
  | .tup xs => some xs
  | d => seqL s d
def keyDs : List D → Option (List Key)
  | [] => some []
  | d :: ds => match keyD d, keyDs ds with
    | some k, some ks => some (k :: ks)
    | _, _ => none
def kD : Key → D
  | .inl i => .int i
  | .inr x => .str x
section
variable {K : PySem.W.Frag} {T : List (Addr × Str)} {g : Gh} {H0 H : Hp} {s : Sto} {v : V} {d : D} {ds : List D}
theorem seqL_ok (w : WF K T g H s) (r : RK .b K g H0 H v d) (h : seqL s d = some ds) : ∃ a us, v = .ref a ∧ SqL K H a us ∧ Reps K g us ds := by
  unfold seqL at h
  split at h
  · cases h
    obtain ⟨a, us, rfl, h1, r1⟩ := r.lst w
    exact ⟨a, us, rfl, SqL.of h1, r1⟩
  · cases h
    obtain ⟨a, rfl, h1⟩ := r.scr w
    exact ⟨a, _, rfl, h1, Reps.ints _⟩
  · split at h
    · rename_i hs
      cases h
      obtain ⟨a, rfl, hr, ok⟩ := Rep.obj_at w r.rep hs
      cases ok with
      | lst h1 h2 => exact ⟨a, _, rfl, SqL.of h1, h2⟩
    · cases h
  · cases h
theorem seqA_ok (w : WF K T g H s) (r : RK .b K g H0 H v d) (h : seqA s d = some ds) : ∃ a us, v = .ref a ∧ (SqL K H a us ∨ SqT K H a us) ∧ Reps K g us ds := by
  unfold seqA at h
  split at h
  · cases h
    obtain ⟨a, us, rfl, h1, r1⟩ := r.tup w
    exact ⟨a, us, rfl, .inr h1, r1⟩
  · obtain ⟨a, us, rfl, h1, r1⟩ := seqL_ok w r h
    exact ⟨a, us, rfl, .inl h1, r1⟩
theorem Rep.key {k : Key} (r : Rep K g v d) (h : keyD d = some k) : v = kV k := by
  cases d <;> first | (cases h; done) | skip
  · cases h; cases r; rfl
  · cases h; cases r; rfl
theorem Reps.keys : ∀ {us : List V} {ds : List D} {ks : List Key}, Reps K g us ds → keyDs ds = some ks → us = ks.map kV
  | _, _, _, .nil, h => by cases h; rfl
  | _, d :: ds, ks, .cons r q, h => by
    have h : (match keyD d, keyDs ds with
      | some k, some ks => some (k :: ks)
      | _, _ => none) = some ks := h
    cases z1 : keyD d with
    | none => rw [z1] at h; cases h
    | some k =>
      cases z2 : keyDs ds with
      | none => rw [z1, z2] at h; cases h
      | some ks' =>
        rw [z1, z2] at h
        cases h
        rw [List.map_cons, r.key z1, Reps.keys q z2]
theorem rep_kD (k : Key) : Rep K g (kV k) (kD k) := by
  cases k
  · exact .int _
  · exact .str _
theorem reps_kD : ∀ ks : List Key, Reps K g (ks.map kV) (ks.map kD)
  | [] => .nil
  | k :: ks => .cons (rep_kD k) (reps_kD ks)
end
/-- the keys that sorted goes through -/
def keysOfS (s : Sto) (x : D) : Option (List Key) := match seqL s x with
  | some ds => keyDs ds
  | none => (dctAt s x).map fun kvs => kvs.map (·.1)
def sortS3 (s : Sto) : List D → Option D
  | [x] => (keysOfS s x).bind fun ks => if small ks.length = true then (sortK ks).map fun ys => .lst (ys.map kD) else none
  | _ => none
section
variable {c : Ctx}
theorem keysOfS_ok {K : PySem.W.Frag} {T : List (Addr × Str)} {g : Gh} {H0 H : Hp} {s : Sto} {v : V} {d : D} {ks : List Key} {wd : World} (w : WF K T g H s) (r : RK .b K g H0 H v d) (h : keysOfS s d = some ks) : ∃ a, v = .ref a ∧ Goes K wd H a ks := by
  unfold keysOfS at h
  cases z : seqL s d with
  | some ds =>
    rw [z] at h
    obtain ⟨a, us, rfl, h1, r1⟩ := seqL_ok w r z
    refine ⟨a, rfl, .inl ?_⟩
    rw [← r1.keys h]
    exact h1
  | none =>
    rw [z] at h
    cases z2 : dctAt s d with
    | none => rw [z2] at h; cases h
    | some kvs =>
      rw [z2] at h
      cases h
      obtain ⟨a, kv, rfl, h1, kr⟩ := dctAt_ok w r z2
      exact ⟨a, rfl, .inr (.inl ⟨kv, h1, kr.keys⟩)⟩
theorem small_ok {n : Nat} (h : small n = true) : n ≤ sizeLine := by
  have := of_decide_eq_true h
  rw [sizeLine_eq]
  exact this
theorem cs_sort (hc : c.X.calm = true := by rfl) : CallS c (.builtin "sorted") sortS3 := by
  refine ⟨_, cr_sortK hc, fun g H s xs ds d Q w rs e k => ?_⟩
  unfold sortS3 at e
  split at e
  · rename_i x
    obtain ⟨v, rfl, r⟩ := rs.one1
    cases z : keysOfS s x with
    | none => rw [z] at e; cases e
    | some ks =>
      rw [z] at e
      have e : (if small ks.length = true then (sortK ks).map (fun ys => D.lst (ys.map kD)) else none) = some d := e
      split at e
      · rename_i hz
        cases z2 : sortK ks with
        | none => rw [z2] at e; cases e
        | some ys =>
          rw [z2] at e
          cases e
          obtain ⟨a, rfl, hgo⟩ := keysOfS_ok (wd := c.X.w) w r z
          exact ⟨a, ks, ys, rfl, z2, small_ok hz, hgo, fun p hp => k.lst w (reps_kD ys) hp⟩
      · cases e
  · cases e
/-! ### set(x) under len, sorted -/
def ddK : List Key → List Key
  | [] => []
  | k :: r => if ((ddK r).any fun j => decide (j = k)) = true then ddK r else k :: ddK r
theorem mem_ddK {k : Key} : ∀ {ks : List Key}, k ∈ ddK ks ↔ k ∈ ks
  | [] => Iff.rfl
  | j :: r => by
    unfold ddK
    have ih := mem_ddK (k := k) (ks := r)
    split
    · rename_i h
      obtain ⟨i, hi, e⟩ := List.any_eq_true.mp h
      have e := of_decide_eq_true e
      subst e
      rw [ih, List.mem_cons]
      exact ⟨.inr, fun z => z.elim (fun e => by rw [e]; exact mem_ddK.mp hi) id⟩
    · rw [List.mem_cons, List.mem_cons, ih]
theorem nd_ddK : ∀ ks : List Key, (ddK ks).Nodup
  | [] => List.nodup_nil
  | j :: r => by
    unfold ddK
    split
    · exact nd_ddK r
    · rename_i h
      refine List.nodup_cons.mpr ⟨fun hm => h (List.any_eq_true.mpr ⟨j, hm, decide_eq_true rfl⟩), nd_ddK r⟩
theorem perm_of_mem {α : Type} [DecidableEq α] : ∀ {l m : List α}, l.Nodup → m.Nodup → (∀ a, a ∈ l ↔ a ∈ m) → l.Perm m := fun h1 h2 h => (List.perm_ext_iff_of_nodup h1 h2).mpr h
theorem few_ddK : ∀ ks : List Key, (ddK ks).length ≤ ks.length
  | [] => Nat.le_refl _
  | j :: r => by
    have := few_ddK r
    unfold ddK
    split <;> simp <;> omega
def setKs (s : Sto) (x : D) : Option (List Key) := (seqA s x).bind fun ds => (keyDs ds).bind fun ks => if ks.length < 4000 then some ks else none
def e1S (op : Sto → D → Option D) (a : ED) : ED := fun τ s => (a τ s).bind fun x s => M.opt (op s x) s
def lenSet (s : Sto) (x : D) : Option D := (setKs s x).map fun ks => .int (ddK ks).length
def sortSet (s : Sto) (x : D) : Option D := (setKs s x).bind fun ks => (sortK (ddK ks)).map fun ys => .lst (ys.map kD)
theorem setKs_ok {K : PySem.W.Frag} {T : List (Addr × Str)} {g : Gh} {H0 H : Hp} {s : Sto} {v : V} {d : D} {ks : List Key} {wd : World} {Q : VK} (w : WF K T g H s) (r : RK .b K g H0 H v d) (h : setKs s d = some ks)
    (k : ∀ (a : Addr) (L : List Key), H a = none → L.Perm (ddK ks) → Q (.ref a) (upd H a (SetKO wd a L))) : rSetK K wd [v] H Q := by
  unfold setKs at h
  cases z : seqA s d with
  | none => rw [z] at h; cases h
  | some ds =>
    rw [z] at h
    have h : (keyDs ds).bind _ = _ := h
    cases z2 : keyDs ds with
    | none => rw [z2] at h; cases h
    | some ks' =>
      rw [z2] at h
      have h : (if ks'.length < 4000 then some ks' else none) = some ks := h
      split at h
      · rename_i hz
        cases h
        obtain ⟨a, us, rfl, h1, r1⟩ := seqA_ok w r z
        rw [r1.keys z2] at h1
        exact ⟨a, ks, rfl, h1, by unfold scanBound; omega, fun b L hb hn hm => k b L hb (perm_of_mem hn (nd_ddK ks) fun j => (hm j).trans mem_ddK.symm)⟩
      · cases h
theorem de_lenSet {e : Expr} {fe : ED} {p p2 q pos : Pos} (he : DE .b c e fe) (hm : c.X.mg "len" = none) (hm2 : c.X.mg "set" = none) (hc : c.X.calm = true := by rfl) (hg : Gl c.X "len" := by rfl) (hg2 : Gl c.X "set" := by rfl)
    (na : starEach [e] c.X.env = (false, eval e c.X.env) :: starEach [] c.X.env := by rfl) (nb : starEach [.Call (.Name "set" p2) [e] [] q] c.X.env = (false, eval (.Call (.Name "set" p2) [e] [] q) c.X.env) :: starEach [] c.X.env := by rfl) :
    DE .o c (.Call (.Name "len" p) [.Call (.Name "set" p2) [e] [] q] [] pos) (e1S lenSet fe) := by
  obtain ⟨t, pt, qt⟩ := he
  refine de_mk (pe_callB cr_lenK hg hm PySem.boot_len (pa_cons (pe_callTy (cr_setK hc) hg2 hm2 PyProof.Rows.boot_set (pa_cons pt pa_nil na) (he := na)) pa_nil nb) (he := nb)) fun g H s σ τ Q o h => ?_
  refine qt g H s σ τ _ o (Pg.seq h fun x s1 g1 H1 er e1 w1 h1 v rx => ?_)
  obtain ⟨d, ed, k⟩ := h1.opt
  unfold lenSet at ed
  cases z : setKs s1 x with
  | none => rw [z] at ed; cases ed
  | some ks =>
    rw [z] at ed
    cases ed
    show rSetK c.X.K c.X.w [v] H1 fun x H1 => rLenK c.X.w [x] H1 Q
    refine setKs_ok w1 rx z fun a L ha hp => ⟨a, L, rfl, upd_same, ?_⟩
    rw [hp.length_eq]
    exact k g1 _ (Ext.new ha) (w1.new ha) _ (.of (.int _))
theorem de_sortSet {e : Expr} {fe : ED} {p p2 q pos : Pos} (he : DE .b c e fe) (hm : c.X.mg "sorted" = none) (hm2 : c.X.mg "set" = none) (hc : c.X.calm = true := by rfl) (hg : Gl c.X "sorted" := by rfl) (hg2 : Gl c.X "set" := by rfl)
    (na : starEach [e] c.X.env = (false, eval e c.X.env) :: starEach [] c.X.env := by rfl) (nb : starEach [.Call (.Name "set" p2) [e] [] q] c.X.env = (false, eval (.Call (.Name "set" p2) [e] [] q) c.X.env) :: starEach [] c.X.env := by rfl) :
    DE .o c (.Call (.Name "sorted" p) [.Call (.Name "set" p2) [e] [] q] [] pos) (e1S sortSet fe) := by
  obtain ⟨t, pt, qt⟩ := he
  refine de_mk (pe_callB (cr_sortK hc) hg hm (by decide +kernel) (pa_cons (pe_callTy (cr_setK hc) hg2 hm2 PyProof.Rows.boot_set (pa_cons pt pa_nil na) (he := na)) pa_nil nb) (he := nb)) fun g H s σ τ Q o h => ?_
  refine qt g H s σ τ _ o (Pg.seq h fun x s1 g1 H1 er e1 w1 h1 v rx => ?_)
  obtain ⟨d, ed, k⟩ := h1.opt
  unfold sortSet at ed
  cases z : setKs s1 x with
  | none => rw [z] at ed; cases ed
  | some ks =>
    rw [z] at ed
    have ed : (sortK (ddK ks)).map (fun ys => D.lst (ys.map kD)) = some d := ed
    cases z2 : sortK (ddK ks) with
    | none => rw [z2] at ed; cases ed
    | some ys =>
      rw [z2] at ed
      cases ed
      show rSetK c.X.K c.X.w [v] H1 fun x H1 => rSortK c.X.K c.X.w [x] H1 Q
      refine setKs_ok w1 rx z fun a L ha hp => ⟨a, ddK ks, ys, rfl, z2, ?_, .inr (.inr ⟨L, upd_same, hp⟩), fun b hb => ?_⟩
      · have h4 : ks.length < 4000 := by
          unfold setKs at z
          cases y : seqA s1 x with
          | none => rw [y] at z; cases z
          | some ds =>
            rw [y] at z
            have z : (keyDs ds).bind _ = _ := z
            cases y2 : keyDs ds with
            | none => rw [y2] at z; cases z
            | some ks' =>
              rw [y2] at z
              have z : (if ks'.length < 4000 then some ks' else none) = some ks := z
              split at z
              · cases z; assumption
              · cases z
        have := few_ddK ks
        rw [sizeLine_eq]
        omega
      · have w2 := w1.new (o := SetKO c.X.w a L) ha
        refine k g1 _ ((Ext.new ha).trans (Ext.new hb)) (w2.new hb) _ (.inr ⟨.lst (w2.gne hb) (fun n => w2.rne hb) upd_same (reps_kD ys), b, rfl, ?_⟩)
        exact (e1.trans (Ext.new ha)).fresh hb
end
section
variable {Q : D → Sto → Prop} {X : XP} {τ : Ev} {s : Sto} {a : ED}
theorem wp_e1S {op : Sto → D → Option D} : wp (e1S op a τ s) Q X = wp (a τ s) (fun x s => onO (op s x) fun d => Q d s) X := by
  unfold e1S; rw [wp_bind]; refine wp_cg fun x s => ?_; exact wp_opt
end
end Mir

set_option Elab.async false
set_option linter.all false
set_option maxRecDepth 100000
set_option maxHeartbeats 4000000
/-! Mir, part Sh: a dict of the store while it is walked. -/
namespace Mir
open PySem PySem.Spec PyProof.Rows L2
/-- a is not frozen any more -/
def Gh.thaw (g : Gh) (a : Addr) : Gh := { g with G := fun b => if b = a then none else g.G b }
theorem Gh.thaw_ne {g : Gh} {a b : Addr} (h : b ≠ a) : (g.thaw a).G b = g.G b := if_neg h
theorem Gh.thaw_at {g : Gh} {a : Addr} : (g.thaw a).G a = none := if_pos rfl
section
variable {K : PySem.W.Frag} {T : List (Addr × Str)} {g g' : Gh} {H H' : Hp} {s s' : Sto} {a : Addr} {od : Obj} {kv : List (Key × V)}
theorem sqT_thaw {p : Addr} {xs : List V} (hf : g.G a = some (.frz od (.dK kv))) (h : SqT K g.G p xs) : SqT K (g.thaw a).G p xs := by
  rcases h with h | h
  · refine .inl ?_
    have hne : p ≠ a := fun e => by
      subst e
      rcases h with h | ⟨o, h⟩
      · rw [hf] at h; cases h
      · rw [hf] at h; cases h
    rcases h with h | ⟨o, h⟩
    · exact .inl (by rw [Gh.thaw_ne hne]; exact h)
    · exact .inr ⟨o, by rw [Gh.thaw_ne hne]; exact h⟩
  · exact .inr h
theorem sqL_thaw {p : Addr} {xs : List V} (hf : g.G a = some (.frz od (.dK kv))) (h : SqL K g.G p xs) : SqL K (g.thaw a).G p xs := by
  rcases h with h | h
  · refine .inl ?_
    have hne : p ≠ a := fun e => by
      subst e
      rcases h with h | ⟨o, h⟩
      · rw [hf] at h; cases h
      · rw [hf] at h; cases h
    rcases h with h | ⟨o, h⟩
    · exact .inl (by rw [Gh.thaw_ne hne]; exact h)
    · exact .inr ⟨o, by rw [Gh.thaw_ne hne]; exact h⟩
  · exact .inr h
mutual
theorem Rep.thaw (hf : g.G a = some (.frz od (.dK kv))) : ∀ {v : V} {d : D}, Rep K g v d → Rep K (g.thaw a) v d
  | _, _, .non => .non
  | _, _, .bl b => .bl b
  | _, _, .int i => .int i
  | _, _, .str x => .str x
  | _, _, .tup h r => .tup (sqT_thaw hf h) (Reps.thaw hf r)
  | _, _, .lst (a := p) h r => .lst (by rw [Gh.thaw_ne (fun e => by rw [e, hf] at h; cases h)]; exact h) (Reps.thaw hf r)
  | _, _, .dct (a := p) h l r => .dct (by rw [Gh.thaw_ne (fun e => by rw [e, hf] at h; cases h)]; exact h) l (Reps.thaw hf r)
  | _, _, .scr h => .scr (sqL_thaw hf h)
  | _, _, .obj h => .obj h
  | _, _, .exc => .exc
theorem Reps.thaw (hf : g.G a = some (.frz od (.dK kv))) : ∀ {vs : List V} {ds : List D}, Reps K g vs ds → Reps K (g.thaw a) vs ds
  | _, _, .nil => .nil
  | _, _, .cons h r => .cons (Rep.thaw hf h) (Reps.thaw hf r)
end
theorem KR.thaw {κ : Type} (hf : g.G a = some (.frz od (.dK kv))) : ∀ {r : List (κ × V)} {r' : List (κ × D)}, KR K g r r' → KR K (g.thaw a) r r'
  | _, _, .nil => .nil
  | _, _, .cons h q => .cons (h.thaw hf) (KR.thaw hf q)
theorem Own.thaw {u : HO} {v : V} {d : D} {n : Nat} (hf : g.G a = some (.frz od (.dK kv))) (hr : g.r n = some a) (h : Own K g H v d) : Own K (g.thaw a) (upd H a u) v d := by
  cases h with
  | @lst p xs ds h1 h2 h3 h4 =>
    have hne : p ≠ a := fun e => h2 n (by rw [e]; exact hr)
    exact .lst (by rw [Gh.thaw_ne hne]; exact h1) h2 (by rw [upd_ne hne]; exact h3) (h4.thaw hf)
  | @dct p ks xs ds h1 h2 h3 l h4 =>
    have hne : p ≠ a := fun e => h2 n (by rw [e]; exact hr)
    exact .dct (by rw [Gh.thaw_ne hne]; exact h1) h2 (by rw [upd_ne hne]; exact h3) l (h4.thaw hf)
theorem RK.thaw {k : Kd} {H0 : Hp} {u : HO} {v : V} {d : D} {n : Nat} (hf : g.G a = some (.frz od (.dK kv))) (hr : g.r n = some a) (h : RK k K g (upd H0 a (.frz od (.dK kv))) H v d) : RK k K (g.thaw a) H0 (upd H a u) v d := by
  cases k with
  | z => exact Rep.thaw hf h
  | b =>
    rcases h with h | h
    · exact .inl (h.thaw hf)
    · exact .inr (h.thaw hf hr)
  | o =>
    rcases h with ⟨h1, h⟩ | ⟨h, p, h1, h2⟩
    · exact .inl ⟨h1, h.thaw hf⟩
    · refine .inr ⟨h.thaw hf hr, p, h1, ?_⟩
      by_cases e : p = a
      · rw [e, upd_same] at h2; cases h2
      · rw [upd_ne e] at h2; exact h2
/-- locked -/
theorem WF.lock (w : WF K T g H s) {n : Nat} {kds : List (Key × D)} (hn : s[n]? = some (.dct kds)) (ha : g.r n = some a) (hH : H a = some (.dK kv)) (kr : KR K g kv kds) (od : Obj) : Le g (g.frz a (.frz od (.dK kv))) ∧ WF K T (g.frz a (.frz od (.dK kv))) (upd H a (.frz od (.dK kv))) (s.set n (.lck kds)) := by
  have hg : g.G a = none := w.gfree hn ha (by intro _ h; cases h)
  have le : Le g (g.frz a (.frz od (.dK kv))) := Gh.frz_le (.inl hg)
  have hl := (List.getElem?_eq_some_iff.mp hn).1
  refine ⟨le, ?_⟩
  exact {
    sub := fun b o h => by
      have h : upd g.G a (.frz od (.dK kv)) b = some o := h
      by_cases e : b = a
      · subst e; rw [upd_same] at h ⊢; exact h
      · rw [upd_ne e] at h ⊢; exact w.sub b o h
    inj := w.inj
    out := fun m b hb o ho => by
      have ho : upd g.G a (.frz od (.dK kv)) b = some o := ho
      by_cases e : b = a
      · subst e; rw [upd_same] at ho; cases ho; exact ⟨_, _, rfl⟩
      · rw [upd_ne e] at ho; exact w.out m b hb o ho
    sto := fun m o h => by
      by_cases e : n = m
      · subst e
        rw [List.getElem?_set_self hl] at h
        cases h
        exact ⟨a, ha, .lck upd_same Gh.frz_at (kr.mono le)⟩
      · rw [List.getElem?_set_ne e] at h
        obtain ⟨b, h1, h2⟩ := w.sto m o h
        exact ⟨b, h1, h2.move le (upd_ne fun q => by subst q; exact e (w.inj n m _ ha h1))⟩
    nxt := fun m b h => by rw [List.length_set]; exact w.nxt m b h
    tab := fun q hq => by
      obtain ⟨ps, h1, h2, h3⟩ := w.tab q hq
      have n1 : q.1 ≠ a := fun z => by rw [z, hH] at h1; cases h1
      refine ⟨ps, by rw [upd_ne n1]; exact h1, h2, fun pos cv hc => ?_⟩
      obtain ⟨cc, e1, e2⟩ := h3 pos cv hc
      refine ⟨cc, e1, ?_⟩
      rw [upd_ne fun z => ?_]
      · exact e2
      · rw [z, hH] at e2; unfold LamX.CodeO at e2; cases e2
    notab := fun b ps h => by
      have h : upd g.G a (.frz od (.dK kv)) b = some (.tbl ps) := h
      by_cases e : b = a
      · subst e; rw [upd_same] at h; cases h
      · rw [upd_ne e] at h; exact w.notab b ps h }
/-- and unlocked -/
theorem WF.unlock (w : WF K T g' H' s') {n : Nat} {kds : List (Key × D)} (hn : s'[n]? = some (.lck kds)) (ha : g'.r n = some a) (hf : g'.G a = some (.frz od (.dK kv))) : WF K T (g'.thaw a) (upd H' a (.dK kv)) (s'.set n (.dct kds)) := by
  have hl := (List.getElem?_eq_some_iff.mp hn).1
  have hH : H' a = some (.frz od (.dK kv)) := w.sub a _ hf
  exact {
    sub := fun b o h => by
      by_cases e : b = a
      · subst e; rw [Gh.thaw_at] at h; cases h
      · rw [Gh.thaw_ne e] at h; rw [upd_ne e]; exact w.sub b o h
    inj := w.inj
    out := fun m b hb o ho => by
      by_cases e : b = a
      · subst e; rw [Gh.thaw_at] at ho; cases ho
      · rw [Gh.thaw_ne e] at ho; exact w.out m b hb o ho
    sto := fun m o h => by
      by_cases e : n = m
      · subst e
        rw [List.getElem?_set_self hl] at h
        cases h
        obtain ⟨b, h1, h2⟩ := w.sto n _ hn
        rw [ha] at h1; cases h1
        cases h2 with
        | lck q1 q2 kr => rw [hH] at q1; cases q1; exact ⟨a, ha, .dct upd_same (kr.thaw hf)⟩
      · rw [List.getElem?_set_ne e] at h
        obtain ⟨b, h1, h2⟩ := w.sto m o h
        have hne : b ≠ a := fun q => by subst q; exact e (w.inj n m _ ha h1)
        refine ⟨b, h1, ?_⟩
        cases h2 with
        | lst q r => exact .lst (by rw [upd_ne hne]; exact q) (r.thaw hf)
        | dct q r => exact .dct (by rw [upd_ne hne]; exact q) (r.thaw hf)
        | ins q r => exact .ins (by rw [upd_ne hne]; exact q) (r.thaw hf)
        | lck q q2 r => exact .lck (by rw [upd_ne hne]; exact q) (by rw [Gh.thaw_ne hne]; exact q2) (r.thaw hf)
    nxt := fun m b h => by rw [List.length_set]; exact w.nxt m b h
    tab := fun q hq => by
      obtain ⟨ps, h1, h2, h3⟩ := w.tab q hq
      have n1 : q.1 ≠ a := fun z => by rw [z, hH] at h1; cases h1
      refine ⟨ps, by rw [upd_ne n1]; exact h1, h2, fun pos cv hc => ?_⟩
      obtain ⟨cc, e1, e2⟩ := h3 pos cv hc
      refine ⟨cc, e1, ?_⟩
      rw [upd_ne fun z => ?_]
      · exact e2
      · rw [z, hH] at e2; unfold LamX.CodeO at e2; cases e2
    notab := fun b ps h => by
      by_cases e : b = a
      · subst e; rw [Gh.thaw_at] at h; cases h
      · rw [Gh.thaw_ne e] at h; exact w.notab b ps h }
theorem Ext.unlock {n : Nat} (hg : g.G a = none) (ha : g.r n = some a) (hH : H a = some (.dK kv)) (e : Ext (g.frz a (.frz od (.dK kv))) (upd H a (.frz od (.dK kv))) g' H') : Ext g H (g'.thaw a) (upd H' a (.dK kv)) where
  le := ⟨fun b o h => by
    have hne : b ≠ a := fun q => by subst q; rw [hg] at h; cases h
    rw [Gh.thaw_ne hne]
    exact e.le.G b o (by show upd g.G a _ b = _; rw [upd_ne hne]; exact h), fun m b h => e.le.r m b h⟩
  keep := fun b o h hr ht => by
    have hne : b ≠ a := fun q => hr n (by rw [q]; exact ha)
    rw [upd_ne hne]
    exact e.keep b o (by rw [upd_ne hne]; exact h) hr ht
  newG := fun b h => by
    by_cases q : b = a
    · subst q; rw [Gh.thaw_at, hg]
    · rw [Gh.thaw_ne q, e.newG b (by rw [upd_ne q]; exact h)]
      show upd g.G a _ b = _
      rw [upd_ne q]
  newR := fun m b h => by
    rcases e.newR m b h with z | z
    · exact .inl z
    · refine .inr ?_
      by_cases q : b = a
      · subst q; rw [upd_same] at z; cases z
      · rw [upd_ne q] at z; exact z
  dom := fun b h => by
    by_cases q : b = a
    · subst q; rw [upd_same]; simp
    · rw [upd_ne q]; exact e.dom b (by rw [upd_ne q]; exact h)
theorem Sl.lock {O : Nat → Bool} {σ : St} {τ : Ev} {n : Nat} (h : Sl K g H O σ τ) (hg : g.G a = none) (ha : g.r n = some a) : Sl K (g.frz a (.frz od (.dK kv))) (upd H a (.frz od (.dK kv))) O σ τ := by
  have le : Le g (g.frz a (.frz od (.dK kv))) := Gh.frz_le (.inl hg)
  refine ⟨h.len, fun i d hd => ?_, h.ne⟩
  obtain ⟨v, h1, h2⟩ := h.at_ i d hd
  refine ⟨v, h1, ?_⟩
  by_cases q : O i = true
  · rw [if_pos q] at h2 ⊢
    cases h2 with
    | @lst p xs ds a1 a2 a3 a4 =>
      have hne : p ≠ a := fun e => a2 n (by rw [e]; exact ha)
      exact .lst (by show upd g.G a _ p = none; rw [upd_ne hne]; exact a1) a2 (by rw [upd_ne hne]; exact a3) (a4.mono le)
    | @dct p ks xs ds a1 a2 a3 l a4 =>
      have hne : p ≠ a := fun e => a2 n (by rw [e]; exact ha)
      exact .dct (by show upd g.G a _ p = none; rw [upd_ne hne]; exact a1) a2 (by rw [upd_ne hne]; exact a3) l (a4.mono le)
  · rw [if_neg q] at h2 ⊢; exact h2.mono le
end
/-! ### in mirrors -/
def lkAt (fi : ED) (τ : Ev) (s : Sto) : Option (Nat × Sto) := match fi τ s with
  | .ok (.obj n) _ => match s[n]? with
    | some (.dct kvs) => some (n, s.set n (.lck kvs))
    | _ => none
  | _ => none
def unlk (n : Nat) (s : Sto) : Option Sto := match s[n]? with
  | some (.lck kvs) => some (s.set n (.dct kvs))
  | _ => none
def unR {α : Type} (n : Nat) : R α → R α
  | .ok a s => match unlk n s with
    | some s' => .ok a s'
    | none => .no
  | _ => .no
def eLock (fi : ED) (f : ED) : ED := fun τ s => match lkAt fi τ s with
  | some p => unR p.1 (f τ p.2)
  | none => .no
def sLock (fi : ED) (f : SD) : SD := fun τ s => match lkAt fi τ s with
  | some p => unR p.1 (f τ p.2)
  | none => .no
theorem lkAt_ok {fi : ED} {τ : Ev} {s : Sto} {p : Nat × Sto} (h : lkAt fi τ s = some p) : ∃ kvs, s[p.1]? = some (.dct kvs) ∧ p.2 = s.set p.1 (.lck kvs) := by
  unfold lkAt at h
  split at h
  · rename_i n s1 hf
    split at h
    · rename_i kvs hs
      cases h
      exact ⟨kvs, hs, rfl⟩
    · cases h
  · cases h
section
variable {c : Ctx}
theorem de_lock {k : Kd} {e : Expr} {fi f : ED} (h : DE k c e f) : DE k c e (eLock fi f) := by
  obtain ⟨t, p, q⟩ := h
  refine ⟨tLockE t, pe_lock p, fun g H s σ τ Q o h => ?_⟩
  unfold eLock at h
  cases z : lkAt fi τ s with
  | none => rw [z] at h; exact h.elim
  | some ps =>
    rw [z] at h
    obtain ⟨n, s1⟩ := ps
    obtain ⟨kds, hn, hs1⟩ := lkAt_ok z
    have hs1 : s1 = s.set n (.lck kds) := hs1
    subst hs1
    obtain ⟨a, ha, ok⟩ := o.wf.sto n _ hn
    cases ok with
    | @dct kv _ hH kr =>
      have hg : g.G a = none := o.wf.gfree hn ha (by intro _ h; cases h)
      refine ⟨a, .dK kv, hH, trivial, fun od => ?_⟩
      obtain ⟨le, wl⟩ := o.wf.lock hn ha hH kr od
      refine q _ _ (s.set n (.lck kds)) σ τ _ ⟨wl, o.sl.lock hg ha⟩ ?_
      have h : Pg c g H _ (unR n (f τ (s.set n (.lck kds)))) := h
      cases r : f τ (s.set n (.lck kds)) with
      | exc cl s2 => rw [r] at h; exact h.elim
      | no => rw [r] at h; exact h.elim
      | ok d s2 =>
        rw [r] at h
        intro g' H' e' w' v rv
        have hf : g'.G a = some (.frz od (.dK kv)) := e'.le.G a _ Gh.frz_at
        have ha' : g'.r n = some a := e'.le.r n a ha
        have h : Pg c g H _ (match unlk n s2 with | some s' => R.ok d s' | none => R.no) := h
        unfold unlk at h
        cases hs2 : s2[n]? with
        | none => rw [hs2] at h; exact h.elim
        | some ob =>
          rw [hs2] at h
          cases ob <;> first | exact h.elim | skip
          exact ⟨w'.sub a _ hf, h _ _ (Ext.unlock hg ha hH e') (w'.unlock hs2 ha' hf) v (rv.thaw hf ha')⟩
end
end Mir

set_option Elab.async false
set_option linter.all false
set_option maxRecDepth 100000
set_option maxHeartbeats 4000000
/-! Mir, part Si: walks over locked dicts; statements under a lock; the rest of a block with a slot frozen. -/
namespace Mir
open PySem PySem.Spec PyProof.Rows L2
def lckAt (s : Sto) : D → Option (List (Key × D))
  | .obj n => match s[n]? with
    | some (.lck kvs) => some kvs
    | _ => none
  | _ => none
def iKeysD (f : ED) : AD := fun τ s => (f τ s).bind fun d s => M.opt ((lckAt s d).map fun kvs => kvs.map fun p => kD p.1) s
section
variable {c : Ctx}
theorem KR.at_ {K : PySem.W.Frag} {g : Gh} : ∀ {r : List (Key × V)} {r' : List (Key × D)} {i : Nat} {k : Key}, KR K g r r' → (r'.map (·.1))[i]? = some k → ∃ v, r[i]? = some (k, v)
  | _, _, _, _, .nil, h => by simp at h
  | _, _, 0, _, .cons (v := v) _ _, h => by
    simp at h; subst h; exact ⟨v, rfl⟩
  | _, _, i + 1, _, .cons _ q, h => by
    obtain ⟨v, e⟩ := KR.at_ (i := i) q (by simpa using h)
    exact ⟨v, by simpa using e⟩
theorem di_keys {tg e : Expr} {f : ED} (h : DE .z c e f) : DI c tg e (iKeysD f) := by
  obtain ⟨t, p, q⟩ := h
  refine ⟨iKeys t, pi_keys p, fun g H s σ τ R o h => q g H s σ τ _ o (Pg.seq h fun d s1 g1 H1 _ e1 w1 h1 v rv => ?_)⟩
  obtain ⟨ds, ed, k⟩ := h1.opt
  have rv : Rep c.X.K g1 v d := rv
  cases z : lckAt s1 d with
  | none => rw [z] at ed; cases ed
  | some kds =>
    rw [z] at ed
    cases ed
    unfold lckAt at z
    split at z
    · rename_i n
      split at z
      · rename_i kds' hs
        cases z
        obtain ⟨a, rfl, hr, ok⟩ := Rep.obj_at w1 rv hs
        cases ok with
        | @lck od kv _ hH hG kr =>
          refine ⟨a, od, rfl, .inl ⟨kv, hH, k g1 H1 (Ext.refl _ _) w1 _ ⟨fun i d hd g2 H2 s2 l2 w2 => ?_, fun g2 H2 s2 l2 w2 => ?_⟩⟩⟩
          · have hd : (kds.map fun p => kD p.1)[i]? = some d := hd
            have hk : ∃ key, (kds.map (·.1))[i]? = some key ∧ d = kD key := by
              rw [List.getElem?_map] at hd
              cases hq : kds[i]? with
              | none => rw [hq] at hd; cases hd
              | some pr => rw [hq] at hd; cases hd; exact ⟨pr.1, by rw [List.getElem?_map, hq]; rfl, rfl⟩
            obtain ⟨key, hk1, rfl⟩ := hk
            obtain ⟨vv, hv⟩ := kr.at_ hk1
            have h2 : H2 a = some (.frz od (.dK kv)) := w2.sub _ _ (l2.G _ _ hG)
            refine ⟨⟨h2, (List.getElem?_eq_some_iff.mp hv).1⟩, fun x H3 hx => ?_⟩
            obtain ⟨rfl, k', v', e1, rfl⟩ := hx
            rw [hv] at e1
            cases e1
            exact ⟨g2, Ext.refl _ _, w2, rep_kD _⟩
          · refine ⟨w2.sub _ _ (l2.G _ _ hG), ?_⟩
            rw [List.length_map, ← kr.length]
            exact Nat.le_refl _
      · cases z
    · cases z
theorem ds_lock {st : Stmt} {fi : ED} {f : SD} (h : DS c st f) (hO : ∀ i, c.O i = false := by intro _; rfl) : DS c st (sLock fi f) := by
  obtain ⟨t, p, q⟩ := h
  refine ⟨tLock t, ps_lock p, fun g0 H0 g H s σ τ Dn o h => ?_⟩
  unfold sLock at h
  cases z : lkAt fi τ s with
  | none => rw [z] at h; exact h.elim
  | some ps =>
    rw [z] at h
    obtain ⟨n, s1⟩ := ps
    obtain ⟨kds, hn, hs1⟩ := lkAt_ok z
    have hs1 : s1 = s.set n (.lck kds) := hs1
    subst hs1
    obtain ⟨a, ha, ok⟩ := o.ok.wf.sto n _ hn
    cases ok with
    | @dct kv _ hH kr =>
      have hg : g.G a = none := o.ok.wf.gfree hn ha (by intro _ h; cases h)
      refine ⟨a, .dK kv, hH, trivial, fun od => ?_⟩
      obtain ⟨le, wl⟩ := o.ok.wf.lock hn ha hH kr od
      have ol : SOk c (g.frz a (.frz od (.dK kv))) (upd H a (.frz od (.dK kv))) (g.frz a (.frz od (.dK kv))) (upd H a (.frz od (.dK kv))) (s.set n (.lck kds)) σ τ :=
        ⟨⟨wl, o.ok.sl.lock hg ha⟩, Ext.refl _ _, fun i p d hi => by rw [hO i] at hi; cases hi⟩
      refine q _ _ _ _ (s.set n (.lck kds)) σ τ _ ol ?_
      have slot : ∀ {g' : Gh} {H' : Hp} {σ' : St} {τ' : Ev}, g'.G a = some (.frz od (.dK kv)) → Sl c.X.K g' H' c.O σ' τ' → Sl c.X.K (g'.thaw a) (upd H' a (.dK kv)) c.O σ' τ' := fun {g' H' σ' τ'} hf sl => by
        refine ⟨sl.len, fun i d hd => ?_, sl.ne⟩
        obtain ⟨v, h1, h2⟩ := sl.at_ i d hd
        refine ⟨v, h1, ?_⟩
        rw [hO i, if_neg Bool.false_ne_true] at h2 ⊢
        exact h2.thaw hf
      have h : Ps c g0 H0 g Dn (unR n (f τ (s.set n (.lck kds)))) := h
      cases r : f τ (s.set n (.lck kds)) with
      | exc cl s2 => rw [r] at h; exact h.elim
      | no => rw [r] at h; exact h.elim
      | ok fl s2 =>
        rw [r] at h
        have h : Ps c g0 H0 g Dn (match unlk n s2 with | some s' => R.ok fl s' | none => R.no) := h
        unfold unlk at h
        cases hs2 : s2[n]? with
        | none => rw [hs2] at h; exact h.elim
        | some ob =>
          rw [hs2] at h
          cases ob <;> first | exact h.elim | skip
          rename_i kd2
          have fin : ∀ {g' : Gh} {H' : Hp}, Ext (g.frz a (.frz od (.dK kv))) (upd H a (.frz od (.dK kv))) g' H' → WF c.X.K c.T g' H' s2 → g'.G a = some (.frz od (.dK kv)) ∧ H' a = some (.frz od (.dK kv)) ∧ Ext g H (g'.thaw a) (upd H' a (.dK kv)) ∧ WF c.X.K c.T (g'.thaw a) (upd H' a (.dK kv)) (s2.set n (.dct kd2)) := fun {g' H'} e' w' => by
            have hf : g'.G a = some (.frz od (.dK kv)) := e'.le.G a _ Gh.frz_at
            exact ⟨hf, w'.sub a _ hf, Ext.unlock hg ha hH e', w'.unlock hs2 (e'.le.r n a ha) hf⟩
          cases fl with
          | nx τ1 =>
            intro g' H' σ' l' o'
            obtain ⟨hf, h1, h2, h3⟩ := fin o'.ext o'.ok.wf
            exact ⟨h1, h _ _ σ' h2.le ⟨⟨h3, slot hf o'.ok.sl⟩, o.ext.trans h2, fun i p d hi => by rw [hO i] at hi; cases hi⟩⟩
          | bk τ1 =>
            intro g' H' σ' l' o'
            obtain ⟨hf, h1, h2, h3⟩ := fin o'.ext o'.ok.wf
            exact ⟨h1, h _ _ σ' h2.le ⟨⟨h3, slot hf o'.ok.sl⟩, o.ext.trans h2, fun i p d hi => by rw [hO i] at hi; cases hi⟩⟩
          | ct τ1 =>
            intro g' H' σ' l' o'
            obtain ⟨hf, h1, h2, h3⟩ := fin o'.ext o'.ok.wf
            exact ⟨h1, h _ _ σ' h2.le ⟨⟨h3, slot hf o'.ok.sl⟩, o.ext.trans h2, fun i p d hi => by rw [hO i] at hi; cases hi⟩⟩
          | rt d =>
            intro g' H' v e' w' rv
            obtain ⟨hf, h1, h2, h3⟩ := fin e' w'
            exact ⟨h1, h _ _ v (o.ext.trans h2) h3 (rv.thaw hf)⟩
/-! ### the rest of a block, a slot frozen from here on -/
def sEnd (f : SD) : SD := fun τ s => match f τ s with
  | .ok (.rt d) s' => .ok (.rt d) s'
  | .exc cl s' => .exc cl s'
  | _ => .no
theorem dss_end (i : Nat) {sts : List Stmt} {f : SD} (h : DSs (c.own fun j => if j = i then false else c.O j) sts f) : DSs c sts (sEnd f) := by
  obtain ⟨t, p, q⟩ := h
  refine ⟨t, p, fun g0 H0 g H s σ τ Dn o h => ?_⟩
  obtain ⟨g1, l1, o1⟩ := o.freeze1 i
  refine q g0 H0 g1 H s σ τ Dn o1 ?_
  unfold sEnd at h
  cases r : f τ s with
  | ok fl s1 =>
    rw [r] at h
    cases fl with
    | nx τ1 => exact h.elim
    | bk τ1 => exact h.elim
    | ct τ1 => exact h.elim
    | rt d => exact h
  | exc cl s1 => rw [r] at h; exact h
  | no => rw [r] at h; exact h
end
/-! ### weakest preconditions -/
section
variable {Q : D → Sto → Prop} {X : XP} {τ : Ev} {s : Sto} {f fi a : ED} {p : SD} {QS : Fl → Sto → Prop}
theorem wp_unR {α : Type} {r : R α} {n : Nat} {Q : α → Sto → Prop} : wp (unR n r) Q X = wp r (fun d s => onO (unlk n s) fun s' => Q d s') (fun _ _ => False) := by
  cases r with
  | ok d s =>
    show wp (match unlk n s with | some s' => R.ok d s' | none => R.no) Q X = _
    exact wp_optS (g := fun s' => R.ok d s') (Q := Q)
  | exc cl s => rfl
  | no => rfl
theorem wp_eLock : wp (eLock fi f τ s) Q X = onO (lkAt fi τ s) fun p => wp (f τ p.2) (fun d s => onO (unlk p.1 s) fun s' => Q d s') (fun _ _ => False) := by
  unfold eLock
  cases h : lkAt fi τ s with
  | none => exact propext ⟨fun h => h.elim, fun ⟨_, h, _⟩ => nomatch h⟩
  | some p => rw [onO_some]; exact wp_unR
theorem wp_sLock : wp (sLock fi p τ s) QS X = onO (lkAt fi τ s) fun q => wp (p τ q.2) (fun d s => onO (unlk q.1 s) fun s' => QS d s') (fun _ _ => False) := by
  unfold sLock
  cases h : lkAt fi τ s with
  | none => exact propext ⟨fun h => h.elim, fun ⟨_, h, _⟩ => nomatch h⟩
  | some p => rw [onO_some]; exact wp_unR
theorem wp_end : wp (sEnd p τ s) QS X = wp (p τ s) (fun fl s => match fl with | .rt d => QS (.rt d) s | _ => False) X := by
  unfold sEnd
  cases p τ s with
  | ok fl s => cases fl <;> rfl
  | exc cl s => rfl
  | no => rfl
theorem wp_iKeysD {Q : List D → Sto → Prop} : wp (iKeysD a τ s) Q X = wp (a τ s) (fun d s => onO ((lckAt s d).map fun kvs => kvs.map fun p => kD p.1) fun ds => Q ds s) X := by
  unfold iKeysD; rw [wp_bind]; refine wp_cg fun x s => ?_; exact wp_opt
end
end Mir

set_option Elab.async false
set_option linter.all false
set_option maxRecDepth 100000
set_option maxHeartbeats 4000000
/-! Mir, part Sj: parallel assignment; get, pop, dict(..), append of the store; lists turned about; tuples of the top. -/
namespace Mir
open PySem PySem.Spec PyProof.Rows L2
section
variable {c : Ctx}
/-! ### a, b = x, y -/
def sPar2 (i j : Nat) (fs : AD) : SD := fun τ s => (fs τ s).bind fun ds => match ds with
  | [x, y] => M.ret (.nx ((τ.set i (some x)).set j (some y)))
  | _ => fun _ => .no
def sPar3 (i j l : Nat) (fs : AD) : SD := fun τ s => (fs τ s).bind fun ds => match ds with
  | [x, y, z] => M.ret (.nx (((τ.set i (some x)).set j (some y)).set l (some z)))
  | _ => fun _ => .no
theorem ds_par2 {i j : Nat} {x y : Str} {a b : Expr} {fs : AD} {px py pt pos : Pos} {kt k2 pt2} (hN : c.X.N.Nodup) (ha : DA .z c [a, b] fs) (hOi : c.O i = false := by rfl) (hOj : c.O j = false := by rfl) (hi : c.X.N[i]? = some x := by rfl) (hj : c.X.N[j]? = some y := by rfl) (hij : i ≠ j := by decide)
    (hx : c.X.env.scope.names.lookup x = some .local := by rfl) (hy : c.X.env.scope.names.lookup y = some .local := by rfl)
    (hw : swappedStores [.Tuple [.Name x px, .Name y py] kt pt] (.Tuple [a, b] k2 pt2) c.X.env = pure (some [x, y]) := by rfl)
    (hs : swapsWithSole [.Tuple [.Name x px, .Name y py] kt pt] (.Tuple [a, b] k2 pt2) pos.line c.X.env = pure false := by rfl) (hc : c.X.calm = true := by rfl) :
    DS c (.Assign [.Tuple [.Name x px, .Name y py] kt pt] (.Tuple [a, b] k2 pt2) pos) (sPar2 i j fs) := by
  obtain ⟨t, p, q⟩ := ha
  refine ⟨_, ps_par hc hN hi hj hij hx hy p hw hs, fun g0 H0 g H s σ τ Dn o h => q g H s σ τ _ o.ok (Ps.seq o h fun ds s1 g1 H1 _ e1 w1 o1 h1 vs rs => ?_)⟩
  cases rs with
  | nil => exact h1.elim
  | cons r1 rs =>
    cases rs with
    | nil => exact h1.elim
    | cons r2 rs =>
      cases rs with
      | cons _ _ => exact h1.elim
      | nil => exact ⟨_, _, rfl, h1 g1 H1 _ (Le.refl _) ((o1.set i hOi r1).set j hOj r2)⟩
theorem ds_par3 {i j l : Nat} {x y z : Str} {a b d : Expr} {fs : AD} {px py pz pt pos : Pos} {kt k2 pt2} (hN : c.X.N.Nodup) (ha : DA .z c [a, b, d] fs) (hOi : c.O i = false := by rfl) (hOj : c.O j = false := by rfl) (hOl : c.O l = false := by rfl) (hi : c.X.N[i]? = some x := by rfl) (hj : c.X.N[j]? = some y := by rfl) (hl : c.X.N[l]? = some z := by rfl)
    (hij : i ≠ j := by decide) (hil : i ≠ l := by decide) (hjl : j ≠ l := by decide) (hx : c.X.env.scope.names.lookup x = some .local := by rfl) (hy : c.X.env.scope.names.lookup y = some .local := by rfl) (hz : c.X.env.scope.names.lookup z = some .local := by rfl)
    (hw : swappedStores [.Tuple [.Name x px, .Name y py, .Name z pz] kt pt] (.Tuple [a, b, d] k2 pt2) c.X.env = pure (some [x, y, z]) := by rfl)
    (hs : swapsWithSole [.Tuple [.Name x px, .Name y py, .Name z pz] kt pt] (.Tuple [a, b, d] k2 pt2) pos.line c.X.env = pure false := by rfl) (hc : c.X.calm = true := by rfl) :
    DS c (.Assign [.Tuple [.Name x px, .Name y py, .Name z pz] kt pt] (.Tuple [a, b, d] k2 pt2) pos) (sPar3 i j l fs) := by
  obtain ⟨t, p, q⟩ := ha
  refine ⟨_, ps_par3 hc hN hi hj hl hij hil hjl hx hy hz p hw hs, fun g0 H0 g H s σ τ Dn o h => q g H s σ τ _ o.ok (Ps.seq o h fun ds s1 g1 H1 _ e1 w1 o1 h1 vs rs => ?_)⟩
  cases rs with
  | nil => exact h1.elim
  | cons r1 rs =>
    cases rs with
    | nil => exact h1.elim
    | cons r2 rs =>
      cases rs with
      | nil => exact h1.elim
      | cons r3 rs =>
        cases rs with
        | cons _ _ => exact h1.elim
        | nil => exact ⟨_, _, _, rfl, h1 g1 H1 _ (Le.refl _) (((o1.set i hOi r1).set j hOj r2).set l hOl r3)⟩
/-! ### d.get(k, x), d.pop(k) -/
def isDS (s : Sto) (x : D) : Bool := (dctAt s x).isSome
def getS (s : Sto) (x k z : D) : Option D := (dctAt s x).bind fun kvs => (keyD k).map fun q => (dGet kvs q).getD z
def eGet2 (a b e : ED) : ED := fun τ s => (a τ s).bind fun x s => if isDS s x = true then (b τ s).bind fun k s => (e τ s).bind fun z s => M.opt (getS s x k z) s else .no
theorem isDS_ok {K : PySem.W.Frag} {T : List (Addr × Str)} {g : Gh} {H0 H : Hp} {s : Sto} {v : V} {x : D} (w : WF K T g H s) (r : RK .b K g H0 H v x) (h : isDS s x = true) : ∃ a, v = .ref a ∧ IsD H a := by
  unfold isDS at h
  cases z : dctAt s x with
  | none => rw [z] at h; cases h
  | some kvs =>
    obtain ⟨a, kv, rfl, h1, _⟩ := dctAt_ok w r z
    exact ⟨a, rfl, .inl ⟨kv, h1⟩⟩
theorem de_get2 {o e f : Expr} {fo fe ff : ED} {apos cpos : Pos} (hu : c.X.A.units + 64 < cLine) (ho : DE .b c o fo) (he : DE .b c e fe) (hf : DE .z c f ff) (m : M2 c.X o "get" apos e f cpos := by exact ⟨rfl, rfl, rfl, rfl⟩) : DE .z c (.Call (.Attribute o "get" apos) [e, f] [] cpos) (eGet2 fo fe ff) := by
  obtain ⟨to, po, qo⟩ := ho
  obtain ⟨te, pe, qe⟩ := he
  obtain ⟨tf, pf, qf⟩ := hf
  refine de_mk (pe_dget2 (by omega) po pe pf m) fun g H s σ τ Q o h => qo g H s σ τ _ o (Pg.seq h fun x s1 g1 H1 _ e1 w1 h1 v rx => ?_)
  by_cases hd : isDS s1 x = true
  · rw [if_pos hd] at h1
    obtain ⟨a, rfl, ha⟩ := isDS_ok w1 rx hd
    refine ⟨a, rfl, ha, qe g1 H1 s1 σ τ _ (o.ext e1 w1) (Pg.seq h1 fun k s2 g2 H2 _ e2 w2 h2 u rk => qf g2 H2 s2 σ τ _ ((o.ext e1 w1).ext e2 w2) (Pg.seq h2 fun z s3 g3 H3 _ e3 w3 h3 y rz => ?_))⟩
    obtain ⟨d, ed, kk⟩ := h3.opt
    have rz : Rep c.X.K g3 y z := rz
    have rx3 : RK .b c.X.K g3 H3 H3 (.ref a) x := rx.extB (e2.trans e3)
    have rk3 : RK .b c.X.K g3 H3 H3 u k := rk.extB e3
    unfold getS at ed
    cases z1 : dctAt s3 x with
    | none => rw [z1] at ed; cases ed
    | some kvs =>
      rw [z1] at ed
      have ed : (keyD k).map (fun q => (dGet kvs q).getD z) = some d := ed
      cases z2 : keyD k with
      | none => rw [z2] at ed; cases ed
      | some q =>
        rw [z2] at ed
        cases ed
        obtain ⟨a', kv, ea, hp, kr⟩ := dctAt_ok w3 rx3 z1
        cases ea
        have ek := keyD_ok rk3 z2
        subst ek
        refine ⟨valV kv q, .inl ⟨kv, q, hp, rfl, rfl⟩, ?_⟩
        rcases kr.val (k := q) with ⟨z3, z4⟩ | ⟨d', v', z3, z4, r⟩
        · rw [z4]
          exact kk g3 H3 (Ext.refl _ _) w3 y (by show Rep c.X.K g3 y ((dGet kvs q).getD z); rw [z3]; exact rz)
        · rw [z4]
          exact kk g3 H3 (Ext.refl _ _) w3 v' (by show Rep c.X.K g3 v' ((dGet kvs q).getD z); rw [z3]; exact r)
  · rw [if_neg hd] at h1; exact h1.elim
def popS (s : Sto) (x k : D) : Option (D × Sto) := match x with
  | .obj n => match s[n]? with
    | some (.dct kvs) => (keyD k).bind fun q => (dGet kvs q).map fun d => (d, s.set n (.dct (dDrop kvs q)))
    | _ => none
  | _ => none
def ePop1 (a b : ED) : ED := fun τ s => (a τ s).bind fun x s => if isDS s x = true then (b τ s).bind fun k s => match popS s x k with
  | some p => .ok p.1 p.2
  | none => .no
  else .no
theorem de_pop1 {o e : Expr} {fo fe : ED} {apos cpos : Pos} (ho : DE .b c o fo) (he : DE .b c e fe) (m : M1 c.X o "pop" apos e cpos := by exact ⟨rfl, rfl, rfl, rfl⟩) : DE .z c (.Call (.Attribute o "pop" apos) [e] [] cpos) (ePop1 fo fe) := by
  obtain ⟨to, po, qo⟩ := ho
  obtain ⟨te, pe, qe⟩ := he
  refine de_mk (pe_dpop1 po pe m) fun g H s σ τ Q o h => qo g H s σ τ _ o (Pg.seq h fun x s1 g1 H1 _ e1 w1 h1 v rx => ?_)
  by_cases hd : isDS s1 x = true
  · rw [if_pos hd] at h1
    obtain ⟨a, rfl, ha⟩ := isDS_ok w1 rx hd
    refine ⟨a, rfl, ha, qe g1 H1 s1 σ τ _ (o.ext e1 w1) (Pg.seq h1 fun k s2 g2 H2 _ e2 w2 h2 u rk => ?_)⟩
    have rx2 : RK .b c.X.K g2 H2 H2 (.ref a) x := rx.extB e2
    unfold popS at h2
    obtain ⟨n, rfl⟩ : ∃ n, x = .obj n := by
      cases x <;> first | exact h2.elim | exact ⟨_, rfl⟩
    dsimp only at h2
    cases hs2 : s2[n]? with
    | none => rw [hs2] at h2; exact h2.elim
    | some ob =>
      rw [hs2] at h2
      cases ob <;> first | exact h2.elim | skip
      rename_i kvs
      dsimp only at h2
      cases z2 : keyD k with
      | none => rw [z2] at h2; exact h2.elim
      | some q =>
        rw [z2] at h2
        cases z3 : dGet kvs q with
        | none =>
          have e9 : ((some q).bind fun q => (dGet kvs q).map fun d => (d, s2.set n (.dct (dDrop kvs q)))) = none := by show (dGet kvs q).map _ = none; rw [z3]; rfl
          rw [e9] at h2; exact h2.elim
        | some d =>
          have e9 : ((some q).bind fun q => (dGet kvs q).map fun d => (d, s2.set n (.dct (dDrop kvs q)))) = some (d, s2.set n (.dct (dDrop kvs q))) := by show (dGet kvs q).map _ = _; rw [z3]; rfl
          rw [e9] at h2
          obtain ⟨a', ea, hr, ok⟩ := Rep.obj_at w2 rx2.rep hs2
          cases ea
          have ek := keyD_ok rk z2
          subst ek
          cases ok with
          | @dct kv _ hH kr =>
            rcases kr.val (k := q) with ⟨z4, _⟩ | ⟨d', v', z4, z5, r⟩
            · rw [z3] at z4; cases z4
            · rw [z3] at z4; cases z4
              refine ⟨kv, q, v', hH, rfl, z5, ?_⟩
              exact h2 g2 _ (Ext.setAt hr) (w2.setAt hs2 hr (.dct upd_same kr.drop)) v' r
  · rw [if_neg hd] at h1; exact h1.elim
/-! ### xs.append(y), xs of the store -/
def appS (s : Sto) (x d : D) : Option Sto := match x with
  | .obj n => match s[n]? with
    | some (.lst xs) => if small (xs.length + 1) = true then some (s.set n (.lst (xs ++ [d]))) else none
    | _ => none
  | _ => none
def isLS (s : Sto) : D → Bool
  | .obj n => match s[n]? with
    | some (.lst _) => true
    | _ => false
  | _ => false
def eAppS (a b : ED) : ED := fun τ s => (a τ s).bind fun x s => if isLS s x = true then (b τ s).bind fun d s => match appS s x d with
  | some s' => .ok .non s'
  | none => .no
  else .no
theorem isLS_ok {K : PySem.W.Frag} {T : List (Addr × Str)} {g : Gh} {H : Hp} {s : Sto} {v : V} {x : D} (w : WF K T g H s) (r : Rep K g v x) (h : isLS s x = true) : ∃ n a xs, x = .obj n ∧ v = .ref a ∧ H a = some (.lst xs) := by
  unfold isLS at h
  split at h
  · rename_i n
    split at h
    · rename_i ds hs
      obtain ⟨a, rfl, hr, ok⟩ := Rep.obj_at w r hs
      cases ok with
      | lst h1 h2 => exact ⟨n, a, _, rfl, rfl, h1⟩
    · cases h
  · cases h
theorem de_appS {o e : Expr} {fo fe : ED} {apos cpos : Pos} (ho : DE .z c o fo) (he : DE .z c e fe) (hs : starEach [e] c.X.env = (false, eval e c.X.env) :: starEach [] c.X.env := by rfl)
    (hbase : attributeBase o "append" c.X.env (eval o c.X.env) = eval o c.X.env := by rfl)
    (hfew : ((backTo cpos (starEach [e] c.X.env)).all (fun x => !x.1) && (backToKw cpos (keywordEach [] c.X.env)).all (fun x => x.1.isSome)
      && decide ([e].length + ([] : List Keyword).length + (if ([] : List Keyword).isEmpty then 0 else 1) < 30)) = true := by rfl)
    (hline : (apos.endLine == cpos.line) = true := by rfl) (hplain : (backTo cpos (starEach [] c.X.env)).any (·.1) = false := by rfl) :
    DE .z c (.Call (.Attribute o "append" apos) [e] [] cpos) (eAppS fo fe) := by
  obtain ⟨to, po, qo⟩ := ho
  obtain ⟨te, pe, qe⟩ := he
  refine de_mk (pe_bm PySem.F.plainAttrs_list PySem.F.slot_list_append PySem.F.type_list_append mt_append po (pa_cons pe pa_nil hs) hbase hfew hline hs hplain) fun g H s σ τ Q o h => qo g H s σ τ _ o (Pg.seq h fun x s1 g1 H1 _ e1 w1 h1 v rx => ?_)
  by_cases hd : isLS s1 x = true
  · rw [if_pos hd] at h1
    obtain ⟨n, a, xs, rfl, rfl, ha⟩ := isLS_ok w1 rx hd
    refine ⟨.inl ⟨rfl, xs, SqL.of ha⟩, qe g1 H1 s1 σ τ _ (o.ext e1 w1) (Pg.seq h1 fun d s2 g2 H2 _ e2 w2 h2 u rd => ?_)⟩
    have rd : Rep c.X.K g2 u d := rd
    have rx2 : Rep c.X.K g2 (.ref a) (.obj n) := Rep.mono e2.le rx
    unfold appS at h2
    dsimp only at h2
    cases hs2 : s2[n]? with
    | none => rw [hs2] at h2; exact h2.elim
    | some ob =>
      rw [hs2] at h2
      cases ob <;> first | exact h2.elim | skip
      rename_i ds
      dsimp only at h2
      by_cases hz : small (ds.length + 1) = true
      · rw [if_pos hz] at h2
        obtain ⟨a', ea, hr, ok⟩ := Rep.obj_at w2 rx2 hs2
        cases ea
        cases ok with
        | @lst ys _ hH rs =>
          refine ⟨a, ys, u, rfl, rfl, hH, small_lt (by rw [rs.length]; exact hz), ?_⟩
          exact h2 g2 _ (Ext.setAt hr) (w2.setAt hs2 hr (.lst upd_same (rs.append (.cons rd .nil)))) _ Rep.non
      · rw [if_neg hz] at h2; exact h2.elim
  · rw [if_neg hd] at h1; exact h1.elim
/-! ### xs[::-1] -/
def revS (s : Sto) (x : D) : Option D := (seqL s x).map fun ds => .lst ds.reverse
theorem Reps.rev {K : PySem.W.Frag} {g : Gh} : ∀ {us : List V} {ds : List D}, Reps K g us ds → Reps K g us.reverse ds.reverse
  | _, _, .nil => .nil
  | _, _, .cons h r => by
    rw [List.reverse_cons, List.reverse_cons]
    exact (Reps.rev r).append (.cons h .nil)
theorem de_rev {e : Expr} {fe : ED} {k : Nat} {p1 p2 p3 pos : Pos} (he : DE .b c e fe) : DE .o c (.Subscript e (.Slice none none (some (.UnaryOp .USub (.Constant (.int 1) k p1) p2)) p3) pos) (e1S revS fe) := by
  obtain ⟨t, pt, qt⟩ := he
  refine de_mk (pe_revL pt) fun g H s σ τ Q o h => qt g H s σ τ _ o (Pg.seq h fun x s1 g1 H1 er e1 w1 h1 v rx => ?_)
  obtain ⟨d, ed, kk⟩ := h1.opt
  unfold revS at ed
  cases z : seqL s1 x with
  | none => rw [z] at ed; cases ed
  | some ds =>
    rw [z] at ed
    cases ed
    obtain ⟨a, us, rfl, hs, rs⟩ := seqL_ok w1 rx z
    refine ⟨a, us, rfl, hs, fun p hp => ?_⟩
    exact kk g1 _ (Ext.new hp) (w1.new hp) _ (.inr ⟨.lst (w1.gne hp) (fun n => w1.rne hp) upd_same rs.rev, p, rfl, e1.fresh hp⟩)
end
/-! ### weakest preconditions -/
section
variable {Q : D → Sto → Prop} {X : XP} {τ : Ev} {s : Sto} {a b e : ED} {fs : AD} {QS : Fl → Sto → Prop}
def on2 (ds : List D) (k : D → D → Prop) (t : Tg k := ⟨⟩) : Prop := ∃ x y, ds = [x, y] ∧ k x y
def on3 (ds : List D) (k : D → D → D → Prop) (t : Tg k := ⟨⟩) : Prop := ∃ x y z, ds = [x, y, z] ∧ k x y z
theorem on2_go {x y : D} {k : D → D → Prop} : on2 [x, y] k = k x y := propext ⟨fun ⟨_, _, h, q⟩ => by cases h; exact q, fun h => ⟨x, y, rfl, h⟩⟩
theorem on3_go {x y z : D} {k : D → D → D → Prop} : on3 [x, y, z] k = k x y z := propext ⟨fun ⟨_, _, _, h, q⟩ => by cases h; exact q, fun h => ⟨x, y, z, rfl, h⟩⟩
theorem wp_par2 {i j : Nat} : wp (sPar2 i j fs τ s) QS X = wp (fs τ s) (fun ds s => on2 ds fun x y => onE ((τ.set i (some x)).set j (some y)) fun τ => QS (.nx τ) s) X := by
  unfold sPar2; rw [wp_bind]; refine wp_cg fun ds s => ?_
  match ds with
  | [x, y] => rw [on2_go]; rfl
  | [] => exact propext ⟨fun h => h.elim, fun ⟨_, _, h, _⟩ => nomatch h⟩
  | [x] => exact propext ⟨fun h => h.elim, fun ⟨_, _, h, _⟩ => nomatch h⟩
  | x :: y :: z :: r => exact propext ⟨fun h => h.elim, fun ⟨_, _, h, _⟩ => nomatch h⟩
theorem wp_par3 {i j l : Nat} : wp (sPar3 i j l fs τ s) QS X = wp (fs τ s) (fun ds s => on3 ds fun x y z => onE (((τ.set i (some x)).set j (some y)).set l (some z)) fun τ => QS (.nx τ) s) X := by
  unfold sPar3; rw [wp_bind]; refine wp_cg fun ds s => ?_
  match ds with
  | [x, y, z] => rw [on3_go]; rfl
  | [] => exact propext ⟨fun h => h.elim, fun ⟨_, _, _, h, _⟩ => nomatch h⟩
  | [x] => exact propext ⟨fun h => h.elim, fun ⟨_, _, _, h, _⟩ => nomatch h⟩
  | [x, y] => exact propext ⟨fun h => h.elim, fun ⟨_, _, _, h, _⟩ => nomatch h⟩
  | x :: y :: z :: u :: r => exact propext ⟨fun h => h.elim, fun ⟨_, _, _, h, _⟩ => nomatch h⟩
theorem wp_onC {α : Type} {p : Bool} {r : R α} {Q : α → Sto → Prop} : wp (if p = true then r else .no) Q X = onC p (wp r Q X) := by
  unfold onC
  cases p
  · exact propext ⟨fun h => h.elim, fun h => nomatch h.1⟩
  · exact propext ⟨fun h => ⟨rfl, h⟩, fun h => h.2⟩
theorem onC_cg {p : Bool} {k k' : Prop} (h : k = k') : onC p k = onC p k' := by rw [h]
theorem wp_get2 : wp (eGet2 a b e τ s) Q X = wp (a τ s) (fun x s => onC (isDS s x) (wp (b τ s) (fun k s => wp (e τ s) (fun z s => onO (getS s x k z) fun d => Q d s) X) X)) X := by
  unfold eGet2; rw [wp_bind]; refine wp_cg fun x s => ?_
  rw [wp_onC]
  refine onC_cg ?_
  rw [wp_bind]; refine wp_cg fun k s => ?_; rw [wp_bind]; refine wp_cg fun z s => ?_; exact wp_opt
theorem wp_pop1 : wp (ePop1 a b τ s) Q X = wp (a τ s) (fun x s => onC (isDS s x) (wp (b τ s) (fun k s => onO (popS s x k) fun p => Q p.1 p.2) X)) X := by
  unfold ePop1; rw [wp_bind]; refine wp_cg fun x s => ?_
  rw [wp_onC]
  refine onC_cg ?_
  rw [wp_bind]; refine wp_cg fun k s => ?_
  cases popS s x k with
  | none => exact propext ⟨fun h => h.elim, fun ⟨_, h, _⟩ => nomatch h⟩
  | some p => rw [onO_some]; rfl
theorem wp_appS : wp (eAppS a b τ s) Q X = wp (a τ s) (fun x s => onC (isLS s x) (wp (b τ s) (fun d s => onO (appS s x d) fun s' => Q .non s') X)) X := by
  unfold eAppS; rw [wp_bind]; refine wp_cg fun x s => ?_
  rw [wp_onC]
  refine onC_cg ?_
  rw [wp_bind]; refine wp_cg fun d s => ?_
  exact wp_optS (g := fun s' => R.ok D.non s') (Q := Q)
end
end Mir

set_option Elab.async false
set_option linter.all false
set_option maxRecDepth 100000
set_option maxHeartbeats 4000000
/-! Mir, part Sk: dict(..), list(..), tuple(..) of the store; tuples of the top; told in any def. -/
namespace Mir
open PySem PySem.Spec PyProof.Rows L2
def pairD : D → Option (Key × D)
  | .tup [k, v] => (keyD k).map fun q => (q, v)
  | _ => none
def pairDs : List D → Option (List (Key × D))
  | [] => some []
  | d :: ds => match pairD d, pairDs ds with
    | some p, some ps => some (p :: ps)
    | _, _ => none
section
variable {K : PySem.W.Frag} {T : List (Addr × Str)} {g : Gh} {H0 H : Hp} {s : Sto}
theorem Rep.pair {v : V} {d : D} {p : Key × D} (w : WF K T g H s) (r : Rep K g v d) (h : pairD d = some p) : ∃ a u, v = .ref a ∧ SqT K H a [kV p.1, u] ∧ Rep K g u p.2 := by
  unfold pairD at h
  split at h
  · rename_i k x
    cases z : keyD k with
    | none => rw [z] at h; cases h
    | some q =>
      rw [z] at h
      cases h
      cases r with
      | @tup a xs _ hs rs =>
        cases rs with
        | cons r1 rs =>
          cases rs with
          | cons r2 rs =>
            cases rs
            have e := r1.key z
            subst e
            exact ⟨a, _, rfl, sqT_mono w.sub hs, r2⟩
  · cases h
theorem Reps.pairs (w : WF K T g H s) : ∀ {vs : List V} {ds : List D} {ps : List (Key × D)}, Reps K g vs ds → pairDs ds = some ps → ∃ (as : List Addr) (kvs : List (Key × V)), vs = as.map V.ref ∧ Paired (fun p kv => SqT K H p [kV kv.1, kv.2]) as kvs ∧ KR K g kvs ps
  | _, _, _, .nil, h => by cases h; exact ⟨[], [], rfl, .nil, .nil⟩
  | _, d :: ds, ps, .cons r q, h => by
    have h : (match pairD d, pairDs ds with
      | some p, some ps => some (p :: ps)
      | _, _ => none) = some ps := h
    cases z1 : pairD d with
    | none => rw [z1] at h; cases h
    | some p =>
      cases z2 : pairDs ds with
      | none => rw [z1, z2] at h; cases h
      | some ps' =>
        rw [z1, z2] at h
        cases h
        obtain ⟨as, kvs, e1, e2, e3⟩ := Reps.pairs w q z2
        obtain ⟨a, u, rfl, h1, h2⟩ := r.pair w z1
        exact ⟨a :: as, (p.1, u) :: kvs, by rw [List.map_cons, e1], .cons h1 e2, .cons h2 e3⟩
end
/-- dict(x) -/
def dictS (s : Sto) : List D → Option D
  | [x] => match seqL s x with
    | some ds => (pairDs ds).map fun ps => .dct (mergeD ps)
    | none => (dctAt s x).map fun kvs => .dct kvs
  | _ => none
section
variable {c : Ctx}
theorem own_dct {g : Gh} {H : Hp} {s : Sto} {kvs : List (Key × V)} {kds : List (Key × D)} {Q : VK} (k : Wt c g H s (.dct kds) Q) (w : WF c.X.K c.T g H s) (kr : KR c.X.K g kvs kds) {p : Addr} (hp : H p = none) : Q (.ref p) (upd H p (.dK kvs)) := by
  obtain ⟨k', xs', ds', z1, z2, z3, z4⟩ := kr.unzip
  refine k (.ref p) g _ (Ext.new hp) (w.new hp) (.inr ⟨?_, p, rfl, hp⟩)
  rw [z1, z2]
  exact .dct (w.gne hp) (fun n => w.rne hp) upd_same z3 z4
theorem cs_dict (hc : c.X.calm = true := by rfl) : CallS c (.type "dict") dictS := by
  refine ⟨_, CallR.or (call_dictP hc) call_dictD, fun g H s xs ds d Q w rs e k => ?_⟩
  unfold dictS at e
  split at e
  · rename_i x
    obtain ⟨v, rfl, r⟩ := rs.one1
    split at e
    · rename_i es z
      cases z2 : pairDs es with
      | none => rw [z2] at e; cases e
      | some ps =>
        rw [z2] at e
        cases e
        obtain ⟨a, us, rfl, h1, r1⟩ := seqL_ok w r z
        obtain ⟨as, kvs, rfl, hp, kr⟩ := Reps.pairs w r1 z2
        exact .inl ⟨a, as, kvs, rfl, h1, hp, fun p hn => own_dct k w (KR.merge kr .nil) hn⟩
    · rename_i z
      cases z2 : dctAt s x with
      | none => rw [z2] at e; cases e
      | some kds =>
        rw [z2] at e
        cases e
        obtain ⟨a, kv, rfl, h1, kr⟩ := dctAt_ok w r z2
        exact .inr ⟨a, kv, rfl, h1, fun p hn => own_dct k w kr hn⟩
  · cases e
/-- list(x): of lists, tuples, dicts -/
def listS (s : Sto) : List D → Option D
  | [x] => match seqA s x with
    | some ds => some (.lst ds)
    | none => (dctAt s x).map fun kvs => .lst (kvs.map fun p => kD p.1)
  | _ => none
theorem cs_list (hc : c.X.calm = true := by rfl) : CallS c (.type "list") listS := by
  refine ⟨_, CallR.or call_list_of (call_listD hc), fun g H s xs ds d Q w rs e k => ?_⟩
  unfold listS at e
  split at e
  · rename_i x
    obtain ⟨v, rfl, r⟩ := rs.one1
    split at e
    · rename_i es z
      cases e
      obtain ⟨a, us, rfl, h1, r1⟩ := seqA_ok w r z
      exact .inl ⟨a, us, rfl, h1, fun p hn => k.lst w r1 hn⟩
    · rename_i z
      cases z2 : dctAt s x with
      | none => rw [z2] at e; cases e
      | some kds =>
        rw [z2] at e
        cases e
        obtain ⟨a, kv, rfl, h1, kr⟩ := dctAt_ok w r z2
        refine .inr ⟨a, kv, rfl, h1, fun p hn => k.lst w ?_ hn⟩
        have e1 : (kv.map fun p => kV p.1) = (kv.map (·.1)).map kV := by rw [List.map_map]; rfl
        have e2 : (kds.map fun p => kD p.1) = (kds.map (·.1)).map kD := by rw [List.map_map]; rfl
        rw [e1, e2, kr.keys]
        exact reps_kD _
  · cases e
/-- tuple(x): of lists, tuples -/
def tupS (s : Sto) : List D → Option D
  | [x] => (seqA s x).map .tup
  | _ => none
theorem cs_tup : CallS c (.type "tuple") tupS := by
  refine ⟨_, call_tuple_of, fun g H s xs ds d Q w rs e k => ?_⟩
  unfold tupS at e
  split at e
  · rename_i x
    obtain ⟨v, rfl, r⟩ := rs.one1
    cases z : seqA s x with
    | none => rw [z] at e; cases e
    | some es =>
      rw [z] at e
      cases e
      unfold seqA at z
      split at z
      · cases z
        have rr := r.rep
        obtain ⟨a, us, rfl, h1, r1⟩ := r.tup w
        exact ⟨a, us, rfl, .inr ⟨h1, k.here w rr⟩⟩
      · obtain ⟨a, us, rfl, h1, r1⟩ := seqL_ok w r z
        exact ⟨a, us, rfl, .inl ⟨h1, fun l hl => k.tup w r1 hl⟩⟩
  · cases e
theorem de_callTS {e : Expr} {es : List Expr} {x : Str} {T : String} {op : Sto → List D → Option D} {fs : AD} {p pos : Pos} (ho : CallS c (.type T) op) (ha : DA .b c (e :: es) fs) (hm : c.X.mg x = none) (hv : bootBuiltins x = some (.type T)) (hg : Gl c.X x := by rfl) (hn : x ≠ "__name__" := by decide) (hdb : (x == ("__debug__" : Str)) = false := by decide)
    (he : starEach (e :: es) c.X.env = (false, eval e c.X.env) :: starEach es c.X.env := by rfl) (hpl : (backTo pos (starEach es c.X.env)).any (·.1) = false := by rfl) : DE .o c (.Call (.Name x p) (e :: es) [] pos) (eNS op fs) := by
  obtain ⟨r, pr, qr⟩ := ho
  obtain ⟨t, pt, qt⟩ := ha
  refine de_mk (pe_callTy pr hg hm hv pt hn hdb he hpl) fun g H s σ τ Q o h => qt g H s σ τ _ o (Pg.seq h fun xs s1 g1 H1 _ e1 w1 h1 vs rs => ?_)
  obtain ⟨d, ed, k⟩ := h1.opt
  exact qr g1 H1 s1 vs xs d Q w1 (rs.extB (Ext.refl _ _)) ed fun v' g' H' e' w' r' => k g' H' e' w' v' (r'.ext (Ext.refl _ _) fun p q => e1.fresh q)
/-! ### a tuple of texts of the top -/
structure TupF (K : PySem.W.Frag) (mg : Str → Option Value) (x : Str) (xs : List Str) : Prop where
  ex : ∃ a, mg x = some (.ref a) ∧ SqT K (fun _ => none) a (xs.map V.str)
theorem reps_str {K : PySem.W.Frag} {g : Gh} : ∀ xs : List Str, Reps K g (xs.map V.str) (xs.map D.str)
  | [] => .nil
  | x :: xs => .cons (.str x) (reps_str xs)
theorem de_gtup {x : Str} {xs : List Str} {ds : List D} {pos : Pos} (F : TupF c.X.K c.X.mg x xs) (hd : xs.map D.str = ds := by rfl) (hg : Gl c.X x := by rfl) (hdb : (x == ("__debug__" : Str)) = false := by decide) : DE .o c (.Name x pos) (eC (.tup ds)) := by
  subst hd
  obtain ⟨a, hm, hs⟩ := F.ex
  refine de_mk (pe_glob (v := .ref a) hg hm rfl hdb) fun g H s σ τ Q o h => ?_
  exact Pg.now h o.wf _ (.inl ⟨rfl, .tup (sqT_mono (fun _ _ z => by cases z) hs) (reps_str xs)⟩)
def strsEq : List Value → List Str → Bool
  | [], [] => true
  | .str y _ :: vs, x :: xs => decide (y = x) && strsEq vs xs
  | _, _ => false
theorem strsEq_ok : ∀ {vs : List Value} {xs : List Str}, strsEq vs xs = true → Vals (xs.map V.str) vs
  | [], [], _ => .nil
  | .str y t :: vs, x :: xs, h => by
    obtain ⟨h1, h2⟩ := Bool.and_eq_true_iff.mp h
    have h1 := of_decide_eq_true h1
    subst h1
    exact .cons ⟨t, rfl⟩ (strsEq_ok h2)
def tupB (x : Str) (xs : List Str) (K : PySem.W.Frag) : Bool := match PySem.W.nsIn K mainGlobals x with
  | some (some (.ref a)) => match K.lookup a with
    | some ⟨cl, _, .seq its n, _⟩ => decide (cl = .type "tuple") && (decide (its.size ≤ 1000) && strsEq its.toList xs)
    | _ => false
  | _ => false
theorem tupF_ok {K : PySem.W.Frag} {h : Heap} {mg : Str → Option Value} {x : Str} {xs : List Str} (X : K.In h) (G : h.Ns mainGlobals mg) (b : tupB x xs K = true) : TupF K mg x xs := by
  unfold tupB at b
  split at b
  · rename_i a hx
    split at b
    · rename_i cl dd its n sl hk
      obtain ⟨h1, h2⟩ := Bool.and_eq_true_iff.mp b
      obtain ⟨h2, h3⟩ := Bool.and_eq_true_iff.mp h2
      refine ⟨a, PySem.W.mg_of X G hx, .inr ⟨_, its, n, hk, of_decide_eq_true h1, rfl, ?_, strsEq_ok h3⟩⟩
      have := of_decide_eq_true h2
      rw [sizeLine_eq]
      omega
    · cases b
  · cases b
end
end Mir

set_option Elab.async false
set_option linter.all false
set_option maxRecDepth 100000
set_option maxHeartbeats 4000000
/-! Mir, part Sl: told in any def whose code object has a table. -/
namespace Mir
open PySem PySem.Spec PyProof.Rows L2 HotX L2H LamX
theorem tab_uniq {T : List (Addr × Str)} (nd : (T.map (·.1)).Nodup) {p : Addr × Str} (hp : p ∈ T) : ∀ q ∈ T, q.1 = p.1 → q.2 = p.2 := by
  induction T with
  | nil => cases hp
  | cons t T ih =>
    rw [List.map_cons, List.nodup_cons] at nd
    intro q hq e
    rcases List.mem_cons.mp hp with h1 | h1
    · rcases List.mem_cons.mp hq with h2 | h2
      · rw [h1, h2]
      · exact absurd (by rw [← h1, ← e]; exact List.mem_map.mpr ⟨q, h2, rfl⟩) nd.1
    · rcases List.mem_cons.mp hq with h2 | h2
      · exact absurd (by rw [← h2, e]; exact List.mem_map.mpr ⟨p, h1, rfl⟩) nd.1
      · exact ih nd.2 h1 q h2 e
theorem de_told2 {c : Ctx} {errs : List Str} {x : Str} {k : Nat} {cc PT : Addr} {params : Arguments} {body : Expr} {scope : Scope} {fb : ED} {p lpos pos : Pos} (h : Told c.X.prog c.X.w c.X.K c.X.mg c.X.base c.T errs x k) (TB : TabB c.X.base c.X.mg cc PT) (nd : (c.T.map (·.1)).Nodup) (hcode : c.X.env.code = .ref cc) (hT : (PT, c.X.env.qual ++ "<lambda>") ∈ c.T) (hr : Room (k + 2) c.X.A)
    (hbody : ∀ (A : Around) (outer : List Env) (s : Shared) (H : Hp) (E : XK) (f c' : Addr), Room k (A.deeper (lamEnv c.X scope s.heap.objs.size f c')) → DE .z ⟨lamCxN c.X A outer s H E scope f c', c.T, E, c.O⟩ body fb)
    (L : lamSB c.X.env.scope scope = true := by kernel_rfl) (hdef : defaultsOf params c.X.env = ([], []) := by rfl)
    (hbind : ∀ (q : Str) (cl : List (Str × Addr)) (pm cv ctv : Value), bindArgs (PySem.W.kla_fn "<lambda>" q params body scope cl pm cv ctv) ⟨[], []⟩ = pure [] := by intro _ _ _ _ _; rfl)
    (hg : Gl c.X x := by rfl) (hdb : (x == ("__debug__" : Str)) = false := by decide) :
    DE .z c (.Call (.Name x p) [.Lambda params body scope lpos] [] pos) (eTold errs fb) := by
  obtain ⟨g, pg, bg, sg, Ng, a, dV, kV, doc, pm, cdv, ct, oc, an, od, osl, hm, hk, lk, hcg, hb, S, h0, hva, hda, hca, hG⟩ := h.ex
  refine de_mk (pe_lamcallN (T := c.T) (t := fun E => tEK .z c.X.K c.T E c.O fb) hg hm hk lk hcg hb S h0 hva (hG c.X rfl rfl rfl rfl rfl (hr.mono (by omega)) _) TB hcode hT (fun q hq e => tab_uniq nd hT q hq e) hr (lamS_by L) hdef hbind (fun A outer s H E f c' hr' => (hbody A outer s H E f c' hr').can) hdb hda hca) fun g H s σ τ Q o h => ?_
  refine ⟨o.wf.tab, fun H1 eN dN tN => ?_⟩
  have w1 := wf_lam o.wf eN tN
  have e1 : Ext g H g H1 := ext_lam eN dN
  refine ⟨g, s, τ, w1, o.sl.ext e1, ?_⟩
  unfold eTold at h
  cases z : fb τ s with
  | ok d s' =>
    rw [z] at h
    exact fun g' H' e' w' v rv => h g' H' (e1.trans e') w' v rv
  | exc cl s' =>
    rw [z] at h
    have h : Pg c g H _ (if cl ∈ errs then R.ok (wordD cl) s' else R.no) := h
    by_cases hc : cl ∈ errs
    · rw [if_pos hc] at h
      exact fun g' H' e' w' => ⟨cl, hc, rfl, rfl, g', s', w', fun v g'' H'' e'' w'' r'' => h g'' H'' ((e1.trans e').trans e'') w'' v r''⟩
    · rw [if_neg hc] at h
      exact h.elim
  | no => rw [z] at h; exact h
end Mir

set_option Elab.async false
set_option linter.all false
set_option maxRecDepth 100000
set_option maxHeartbeats 1000000
/-! Mir, part Sm: d != {}, d == {}. -/
namespace Mir
open PySem SX L2
def rNe0 : R2 := fun x y H Q => ∃ a b ks, x = .ref a ∧ y = .ref b ∧ H a = some (.dK ks) ∧ H b = some (.dK []) ∧ Q (.bl (!ks.isEmpty)) H
def rEq0 : R2 := fun x y H Q => ∃ a b ks, x = .ref a ∧ y = .ref b ∧ H a = some (.dK ks) ∧ H b = some (.dK []) ∧ Q (.bl ks.isEmpty) H
section
variable {X : Cx}
theorem op_ne0 (hu : X.A.units < cLine) : OpR X (compareOp .NotEq) rNe0 := by
  intro pins s σ H x y v u Q I rx ry h
  obtain ⟨a, b, ks, rfl, rfl, ea, eb, q⟩ := h
  obtain rfl : v = Value.ref a := rx
  obtain rfl : u = Value.ref b := ry
  obtain ⟨_, ya, va, ra, da⟩ := (show ObjOk X.prog X.w H s.heap a (.dK ks) from I.hok a _ ea)
  obtain ⟨_, yb, vb, rb, db⟩ := (show ObjOk X.prog X.w H s.heap b (.dK []) from I.hok b _ eb)
  have hb : vb = [] := List.length_eq_zero_iff.mp rb.length.symm
  have hl : va.length = ks.length := ra.length.symm
  subst hb
  refine PySem.W.keq_ne (knd := mixKind X.prog X.w) (r := true) ya yb da db hu (fun hz => ?_) (fin_bl I q ?_)
  · have hz : va = [] := List.length_eq_zero_iff.mp hz
    subst hz
    exact .nil
  · cases ks with
    | nil => rw [hl]; rfl
    | cons k ks => rw [hl]; rfl
theorem op_eq0 (hu : X.A.units < cLine) : OpR X (compareOp .Eq) rEq0 := by
  intro pins s σ H x y v u Q I rx ry h
  obtain ⟨a, b, ks, rfl, rfl, ea, eb, q⟩ := h
  obtain rfl : v = Value.ref a := rx
  obtain rfl : u = Value.ref b := ry
  obtain ⟨_, ya, va, ra, da⟩ := (show ObjOk X.prog X.w H s.heap a (.dK ks) from I.hok a _ ea)
  obtain ⟨_, yb, vb, rb, db⟩ := (show ObjOk X.prog X.w H s.heap b (.dK []) from I.hok b _ eb)
  have hb : vb = [] := List.length_eq_zero_iff.mp rb.length.symm
  have hl : va.length = ks.length := ra.length.symm
  subst hb
  refine PySem.W.keq_eq (knd := mixKind X.prog X.w) (r := true) ya yb da db hu (fun hz => ?_) (fin_bl I q ?_)
  · have hz : va = [] := List.length_eq_zero_iff.mp hz
    subst hz
    exact .nil
  · cases ks with
    | nil => rw [hl]; rfl
    | cons k ks => rw [hl]; rfl
end
def dct0 (s : Sto) : D → Option (List (Key × D))
  | .obj n => match s[n]? with
    | some (.dct kvs) => some kvs
    | _ => none
  | _ => none
def ne0 (s : Sto) (x y : D) : Option D := match dct0 s x, dct0 s y with
  | some kvs, some [] => some (.bl (!kvs.isEmpty))
  | _, _ => none
def eq0 (s : Sto) (x y : D) : Option D := match dct0 s x, dct0 s y with
  | some kvs, some [] => some (.bl kvs.isEmpty)
  | _, _ => none
theorem dct0_ok {K : PySem.W.Frag} {T : List (Addr × Str)} {g : Gh} {H0 H : Hp} {s : Sto} {v : V} {d : D} {kds : List (Key × D)} (w : WF K T g H s) (r : RK .b K g H0 H v d) (h : dct0 s d = some kds) : ∃ a kvs, v = .ref a ∧ H a = some (.dK kvs) ∧ kvs.length = kds.length := by
  unfold dct0 at h
  split at h
  · rename_i n
    split at h
    · rename_i kvs hs
      cases h
      obtain ⟨a, rfl, hr, ok⟩ := Rep.obj_at w r.rep hs
      cases ok with
      | dct h1 h2 => exact ⟨a, _, rfl, h1, h2.length⟩
    · cases h
  · cases h
theorem isEmpty_len {α β : Type} {l : List α} {m : List β} (h : l.length = m.length) : l.isEmpty = m.isEmpty := by
  cases l <;> cases m <;> first | rfl | (simp at h)
section
variable {c : Ctx}
theorem de_ne0 {a b : Expr} {fa fb : ED} {pos : Pos} (hu : c.X.A.units + 64 < cLine) (ha : DE .b c a fa) (hb : DE .b c b fb) (hm : behindInMarks .NotEq b = false := by first | exact nomark _ | rfl) : DE .o c (.Compare a [.NotEq] [b] pos) (e2S ne0 fa fb) := by
  obtain ⟨ta, pa, qa⟩ := ha
  obtain ⟨tb, pb, qb⟩ := hb
  refine de_mk (pe_cmpR (op_ne0 (by omega)) pa pb hm) fun g H s σ τ Q o h => ?_
  refine qa g H s σ τ _ o (Pg.seq h fun x s1 g1 H1 er e1 w1 h1 v rx0 => qb g1 H1 s1 σ τ _ (o.ext e1 w1) (Pg.seq h1 fun y s2 g2 H2 er' e2 w2 h2 u ry => ?_))
  have rx := rx0.extB (H1 := H1) e2
  clear rx0
  obtain ⟨d, ed, k⟩ := h2.opt
  unfold ne0 at ed
  split at ed
  · rename_i kvs hx hy
    cases ed
    obtain ⟨p, kx, rfl, hp, lx⟩ := dct0_ok w2 rx hx
    obtain ⟨q, ky, rfl, hq, ly⟩ := dct0_ok w2 ry hy
    have ey : ky = [] := List.length_eq_zero_iff.mp ly
    subst ey
    refine ⟨p, q, kx, rfl, rfl, hp, hq, ?_⟩
    rw [isEmpty_len lx]
    exact k g2 H2 (Ext.refl _ _) w2 _ (.of (.bl _))
  · cases ed
theorem de_eq0 {a b : Expr} {fa fb : ED} {pos : Pos} (hu : c.X.A.units + 64 < cLine) (ha : DE .b c a fa) (hb : DE .b c b fb) (hm : behindInMarks .Eq b = false := by first | exact nomark _ | rfl) : DE .o c (.Compare a [.Eq] [b] pos) (e2S eq0 fa fb) := by
  obtain ⟨ta, pa, qa⟩ := ha
  obtain ⟨tb, pb, qb⟩ := hb
  refine de_mk (pe_cmpR (op_eq0 (by omega)) pa pb hm) fun g H s σ τ Q o h => ?_
  refine qa g H s σ τ _ o (Pg.seq h fun x s1 g1 H1 er e1 w1 h1 v rx0 => qb g1 H1 s1 σ τ _ (o.ext e1 w1) (Pg.seq h1 fun y s2 g2 H2 er' e2 w2 h2 u ry => ?_))
  have rx := rx0.extB (H1 := H1) e2
  clear rx0
  obtain ⟨d, ed, k⟩ := h2.opt
  unfold eq0 at ed
  split at ed
  · rename_i kvs hx hy
    cases ed
    obtain ⟨p, kx, rfl, hp, lx⟩ := dct0_ok w2 rx hx
    obtain ⟨q, ky, rfl, hq, ly⟩ := dct0_ok w2 ry hy
    have ey : ky = [] := List.length_eq_zero_iff.mp ly
    subst ey
    refine ⟨p, q, kx, rfl, rfl, hp, hq, ?_⟩
    rw [isEmpty_len lx]
    exact k g2 H2 (Ext.refl _ _) w2 _ (.of (.bl _))
  · cases ed
end
end Mir

set_option Elab.async false
set_option linter.all false
set_option maxRecDepth 100000
set_option maxHeartbeats 1000000
/-! Mir, part Sn: two dicts of the store that are alike; a slot's own list frozen for the rest of a block, the slot empty behind it. -/
theorem L2H.RoomH.units66 {k : Nat} {A : PySem.Around} (r : L2H.RoomH k A) : A.units + 66 < PySem.cLine := by have := r.un; omega
theorem L2.Room.units66 {k : Nat} {A : PySem.Around} (r : L2.Room k A) : A.units + 66 < PySem.cLine := by have := r.un; omega
namespace Mir
open PySem SX L2
/-! ### d != e, where they are alike -/
def rNeDP (K : PySem.W.Frag) : R2 := fun x y H Q => ∃ a b ks ls, x = .ref a ∧ y = .ref b ∧ H a = some (.dK ks) ∧ H b = some (.dK ls) ∧ ks.length = ls.length ∧ (∀ p ∈ ks, ∃ q d e, valV ls p.1 = some q ∧ Dp K H p.2 d ∧ Dp K H q e ∧ SeqAt.shaped d = true ∧ SeqAt.shaped e = true ∧ PyData.eqv d e = true) ∧ Q (.bl false) H
section
variable {X : Cx}
theorem hits_dp {pins : List (Addr × Obj)} {σ : St} {H : Hp} {s : Shared} (I : Inv X pins σ H s) {A : Around} (hu : A.in1.units + 64 < cLine) {kvs : List (Key × V)} {vb : List (Key × Value)} (rb : KV kvs vb) {ks : List (Key × V)} {va : List (Key × Value)} (ra : KV ks va) :
    (∀ p ∈ ks, ∃ q d e, valV kvs p.1 = some q ∧ Dp X.K H p.2 d ∧ Dp X.K H q e ∧ SeqAt.shaped d = true ∧ SeqAt.shaped e = true ∧ PyData.eqv d e = true) → PySem.W.KeqHits A.in1 s vb va true := by
  unfold KV at ra
  induction ra with
  | nil => intro _; exact .nil
  | @cons p q ps qs h t ih =>
    intro hp
    obtain ⟨h1, h2⟩ := h
    obtain ⟨x, d, e, ex, dp, de, sd, se, eq⟩ := hp p List.mem_cons_self
    have rr : RelO (some x) (valueAt vb p.1) := by rw [← ex]; exact rb.val p.1
    obtain ⟨y, hy, ry⟩ := rr.some_of
    obtain ⟨k, v⟩ := q
    have h1' : p.1 = k := h1
    rw [h1'] at hy
    show PySem.W.KeqHits A.in1 s vb ((k, v) :: qs) (true && true)
    obtain ⟨as, r1⟩ := Dp.reads I d _ _ dp h2
    obtain ⟨bs, r2⟩ := Dp.reads I e _ _ de ry
    have z := PySem.W.keq_at (A := A) r1 r2 sd se hu
    rw [eq] at z
    exact .hit hy z (ih fun p' hm => hp p' (List.mem_cons_of_mem _ hm))
theorem op_neDP (hu : X.A.units + 66 < cLine) : OpR X (compareOp .NotEq) (rNeDP X.K) := by
  intro pins s σ H x y v u Q I rx ry h
  obtain ⟨a, b, ks, ls, rfl, rfl, ea, eb, hlen, hp, q⟩ := h
  obtain rfl : v = Value.ref a := rx
  obtain rfl : u = Value.ref b := ry
  obtain ⟨_, ya, va, ra, da⟩ := (show ObjOk X.prog X.w H s.heap a (.dK ks) from I.hok a _ ea)
  obtain ⟨_, yb, vb, rb, db⟩ := (show ObjOk X.prog X.w H s.heap b (.dK ls) from I.hok b _ eb)
  have hl : va.length = vb.length := by rw [← ra.length, ← rb.length]; exact hlen
  exact PySem.W.keq_ne (knd := mixKind X.prog X.w) (r := true) ya yb da db (by omega) (fun _ => hits_dp I (A := X.A) (by show X.A.units + 1 + 64 < cLine; omega) rb ra hp) (fin_bl I q (by simp [hl]))
end
/-- both are plain and the same -/
def eqPl (d e : D) : Bool := match toP d, toP e with
  | some u, some v => SeqAt.shaped u && (SeqAt.shaped v && PyData.eqv u v)
  | _, _ => false
def hitD (ls : List (Key × D)) (p : Key × D) : Bool := match dGet ls p.1 with
  | some e => eqPl p.2 e
  | none => false
def neSt (s : Sto) (x y : D) : Option D := match dct0 s x, dct0 s y with
  | some ks, some ls => if (decide (ks.length = ls.length) && ks.all (hitD ls)) = true then some (.bl false) else none
  | _, _ => none
theorem dct0_okR {K : PySem.W.Frag} {T : List (Addr × Str)} {g : Gh} {H0 H : Hp} {s : Sto} {v : V} {d : D} {kds : List (Key × D)} (w : WF K T g H s) (r : RK .b K g H0 H v d) (h : dct0 s d = some kds) : ∃ a kvs, v = .ref a ∧ H a = some (.dK kvs) ∧ KR K g kvs kds := by
  unfold dct0 at h
  split at h
  · rename_i n
    split at h
    · rename_i kvs hs
      cases h
      obtain ⟨a, rfl, hr, ok⟩ := Rep.obj_at w r.rep hs
      cases ok with
      | dct h1 h2 => exact ⟨a, _, rfl, h1, h2⟩
    · cases h
  · cases h
theorem KR.mem {κ : Type} {K : PySem.W.Frag} {g : Gh} : ∀ {kvs : List (κ × V)} {kds : List (κ × D)}, KR K g kvs kds → ∀ p ∈ kvs, ∃ d, (p.1, d) ∈ kds ∧ Rep K g p.2 d
  | _, _, .nil, p, hp => nomatch hp
  | _, _, .cons h q, p, hp => by
    rcases List.mem_cons.mp hp with rfl | hp
    · exact ⟨_, List.mem_cons_self, h⟩
    · obtain ⟨d, h1, h2⟩ := KR.mem q p hp
      exact ⟨d, List.mem_cons_of_mem _ h1, h2⟩
section
variable {c : Ctx}
theorem evs_neSt {ta tb : TE} {fa fb : ED} (qa : Evs .b c ta fa) (qb : Evs .b c tb fb) : Evs .o c (tOp (rNeDP c.X.K) ta tb) (e2S neSt fa fb) := fun g H s σ τ Q o h => by
  refine qa g H s σ τ _ o (Pg.seq h fun x s1 g1 H1 er e1 w1 h1 v rx0 => qb g1 H1 s1 σ τ _ (o.ext e1 w1) (Pg.seq h1 fun y s2 g2 H2 er' e2 w2 h2 u ry => ?_))
  have rx := rx0.extB (H1 := H1) e2
  clear rx0
  obtain ⟨d, ed, k⟩ := h2.opt
  unfold neSt at ed
  split at ed
  · rename_i ks ls hx hy
    split at ed
    · rename_i hz
      cases ed
      obtain ⟨p, kx, rfl, hp, lx⟩ := dct0_okR w2 rx hx
      obtain ⟨q, ky, rfl, hq, ly⟩ := dct0_okR w2 ry hy
      obtain ⟨z1, z2⟩ := Bool.and_eq_true_iff.mp hz
      have z1 := of_decide_eq_true z1
      refine ⟨p, q, kx, ky, rfl, rfl, hp, hq, by rw [lx.length, ly.length]; exact z1, fun r hr => ?_, k g2 H2 (Ext.refl _ _) w2 _ (.of (.bl _))⟩
      obtain ⟨d, m1, r1⟩ := KR.mem lx r hr
      have m2 := List.all_eq_true.mp z2 _ m1
      unfold hitD at m2
      split at m2
      · rename_i e he
        unfold eqPl at m2
        split at m2
        · rename_i u v hu' hv'
          obtain ⟨n1, n2⟩ := Bool.and_eq_true_iff.mp m2
          obtain ⟨n2, n3⟩ := Bool.and_eq_true_iff.mp n2
          rcases KR.val (k := r.1) ly with ⟨y1, _⟩ | ⟨d2, v2, y1, y2, y3⟩
          · rw [he] at y1; cases y1
          · rw [he] at y1
            cases y1
            exact ⟨v2, u, v, y2, r1.dp w2 hu', y3.dp w2 hv', n1, n2, n3⟩
        · cases m2
      · cases m2
    · cases ed
  · cases ed
theorem de_neSt {a b : Expr} {fa fb : ED} {pos : Pos} (hu : c.X.A.units + 66 < cLine) (ha : DE .b c a fa) (hb : DE .b c b fb) (hm : behindInMarks .NotEq b = false := by first | exact nomark _ | rfl) : DE .o c (.Compare a [.NotEq] [b] pos) (e2S neSt fa fb) := by
  obtain ⟨ta, pa, qa⟩ := ha
  obtain ⟨tb, pb, qb⟩ := hb
  exact de_mk (pe_cmpR (op_neDP hu) pa pb hm) (evs_neSt qa qb)
theorem dt_neSt {a b : Expr} {fa fb : ED} {pos : Pos} (hu : c.X.A.units + 66 < cLine) (ha : DE .b c a fa) (hb : DE .b c b fb) (hm : behindInMarks .NotEq b = false := by first | exact nomark _ | rfl) : DT c (.Compare a [.NotEq] [b] pos) (tB1 (e2S neSt fa fb)) := by
  obtain ⟨ta, pa, qa⟩ := ha
  obtain ⟨tb, pb, qb⟩ := hb
  exact dt_mk (pt_cmpR (op_neDP hu) pa pb hm) (evt_test (evs_neSt qa qb))
end
/-! ### a slot's own list frozen for a part of a block -/
def freeFl (i : Nat) : Fl → Fl
  | .nx τ => .nx (τ.set i none)
  | .bk τ => .bk (τ.set i none)
  | .ct τ => .ct (τ.set i none)
  | .rt d => .rt d
def sFree (i : Nat) (f : SD) : SD := fun τ s => match f τ s with
  | .ok fl s' => .ok (freeFl i fl) s'
  | .exc cl s' => .exc cl s'
  | .no => .no
section
variable {c : Ctx}
theorem SOk.free {g0 : Gh} {H0 : Hp} {g : Gh} {H : Hp} {s : Sto} {σ : St} {τ : Ev} (i : Nat) (o : SOk (c.own fun j => if j = i then false else c.O j) g0 H0 g H s σ τ) : SOk c g0 H0 g H s σ (τ.set i none) := by
  have hne : ∀ j d, (τ.set i none)[j]? = some (some d) → j ≠ i ∧ τ[j]? = some (some d) := fun j d h => by
    by_cases e : j = i
    · subst e
      rw [List.getElem?_set_self'] at h
      cases q : τ[j]? with
      | none => rw [q] at h; cases h
      | some x => rw [q] at h; cases h
    · rw [List.getElem?_set_ne (fun z => e z.symm)] at h
      exact ⟨e, h⟩
  have hO : ∀ j, j ≠ i → (c.own fun j => if j = i then false else c.O j).O j = c.O j := fun j e => if_neg e
  have hno : ∀ j v, σ[j]? = some (some v) → j = i → (τ.set i none)[j]? = some none := fun j v h e => by
    subst e
    have hl : j < τ.length := by
      have := (List.getElem?_eq_some_iff.mp h).1
      rw [o.ok.sl.len] at this
      exact this
    exact List.getElem?_set_self hl
  refine ⟨⟨o.ok.wf, ⟨by rw [List.length_set]; exact o.ok.sl.len, fun j d h => ?_, fun j k p h1 h2 h3 h4 h5 => ?_⟩⟩, o.ext, fun j p d h1 h2 h3 => ?_⟩
  · obtain ⟨e, h⟩ := hne j d h
    obtain ⟨v, h1, h2⟩ := o.ok.sl.at_ j d h
    rw [hO j e] at h2
    exact ⟨v, h1, h2⟩
  · by_cases e1 : j = i
    · exact .inl (hno j _ h4 e1)
    · by_cases e2 : k = i
      · exact .inr (hno k _ h5 e2)
      · rw [List.getElem?_set_ne (fun z => e1 z.symm), List.getElem?_set_ne (fun z => e2 z.symm)]
        exact o.ok.sl.ne j k p ((hO j e1).trans h1) ((hO k e2).trans h2) h3 h4 h5
  · obtain ⟨e, h⟩ := hne j d h2
    exact o.fr j p d ((hO j e).trans h1) h h3
theorem dss_free (i : Nat) {sts : List Stmt} {f : SD} (h : DSs (c.own fun j => if j = i then false else c.O j) sts f) : DSs c sts (sFree i f) := by
  obtain ⟨t, p, q⟩ := h
  refine ⟨t, p, fun g0 H0 g H s σ τ Dn o h => ?_⟩
  obtain ⟨g1, l1, o1⟩ := o.freeze1 i
  refine q g0 H0 g1 H s σ τ Dn o1 ?_
  unfold sFree at h
  cases r : f τ s with
  | ok fl s1 =>
    rw [r] at h
    cases fl with
    | nx τ1 => exact fun g' H' σ' l' o' => h g' H' σ' (l1.trans l') o'.free
    | bk τ1 => exact fun g' H' σ' l' o' => h g' H' σ' (l1.trans l') o'.free
    | ct τ1 => exact fun g' H' σ' l' o' => h g' H' σ' (l1.trans l') o'.free
    | rt d => exact h
  | exc cl s1 => rw [r] at h; exact h
  | no => rw [r] at h; exact h
end
theorem free_one (n i : Nat) : (if i = n then false else (i == n)) = false := by split <;> simp_all
section
variable {X : XP} {τ : Ev} {s : Sto} {p : SD} {QS : Fl → Sto → Prop}
theorem wp_free {i : Nat} : wp (sFree i p τ s) QS X = wp (p τ s) (fun fl s => QS (freeFl i fl) s) X := by
  unfold sFree
  cases p τ s with
  | ok fl s => rfl
  | exc cl s => rfl
  | no => rfl
end
end Mir

set_option Elab.async false
set_option linter.all false
set_option maxRecDepth 100000
set_option maxHeartbeats 1000000
/-! Mir, part So: a, b = a list. -/
namespace PyProof.Rows
open PySem
open Sem (wp)
section
variable {prog : Program} {w : World} {A : Around} {E : Value → Shared → Prop} {s : Shared}
theorem isList_push {h : Heap} {l : Addr} {items : Array Value} (hl : h.IsList l items) (o : Obj) : (h.push o).IsList l items := by
  obtain ⟨x, hx, r⟩ := hl
  exact ⟨x, Heap.get?_push_of_some _ hx, r⟩
theorem isList_but {h h' : Heap} {l b : Addr} {items : Array Value} (hl : h.IsList l items) (e : Heap.ExtBut b h h') (hne : l ≠ b) : h'.IsList l items := by
  obtain ⟨x, hx, r⟩ := hl
  exact ⟨x, e l x hne hx, r⟩
theorem draw_listU {it t : Addr} {items : Array Value} (hne : t ≠ it) : ∀ (n i : Nat) (s : Shared) (Q : List Value → Shared → Prop), s.heap.IsListIter it t i → s.heap.IsList t items → i + n ≤ items.size →
    (∀ h', Heap.IsListIter h' it t (i + n) → Heap.SameBut it s.heap h' → Q ((items.toList.drop i).take n) { s with heap := h' }) → wpAny (model prog w) A (draw (.ref it) n) Q E s
  | 0, i, s, Q, hit, _, _, hQ => by
    show wpAny _ _ (pure []) Q E s
    exact wpAny_pure (by simpa using hQ s.heap hit (Heap.SameBut.refl ..))
  | n + 1, i, s, Q, hit, ht, hle, hQ => by
    have hlt : i < items.size := by omega
    show wpAny _ _ (pyNext (.ref it) >>= _) Q E s
    refine wpAny_bind (wpAny_pyNext_list_item hit ht (x := items[i]) (by simp [hlt]) fun h₁ hit₁ hs₁ => ?_)
    refine wpAny_bind (wpAny_holding (draw_listU hne n (i + 1) _ _ hit₁ (isList_but ht hs₁.extBut hne) (by omega) fun h₂ hit₂ hs₂ => wpAny_pure ?_))
    have hd : items.toList.drop i = items[i] :: items.toList.drop (i + 1) := by simp [List.drop_eq_getElem_cons, hlt]
    have := hQ h₂ (by rw [show i + (n + 1) = i + 1 + n by omega]; exact hit₂) (hs₁.trans hs₂)
    rw [hd, List.take_succ_cons] at this
    exact this
theorem unpackItems_listU {t : Addr} {items : Array Value} {Q : List Value → Shared → Prop} (hh : A.handled = none) (ht : s.heap.IsList t items)
    (hQ : ∀ h', Heap.ExtBut s.heap.objs.size s.heap h' → Q items.toList { s with heap := h' }) : wpAny (model prog w) A (unpackItems (.ref t) items.size none) Q E s := by
  have hlt : t ≠ s.heap.objs.size := by obtain ⟨o, ho, _⟩ := ht; exact Nat.ne_of_lt (Heap.lt_size ho)
  unfold unpackItems
  refine wpAny_bind ?_
  · unfold notIterableAtAll
    refine wpAny_bind (wpAny_specialOf ht.typeIs slot_list_iter.lookup ?_)
    refine wpAny_pure ?_
    simp only [Bool.false_eq_true, if_false]
    refine wpAny_bind (wpAny_holding (wpAny_pyIter_list ht ?_))
    refine wpAny_bind (wpAny_holding (draw_listU hlt items.size 0 _ _ ⟨_, Heap.get?_push_size _ rfl, rfl, rfl⟩ (isList_push ht _) (by omega) fun h₁ hit₁ hs₁ => ?_))
    have hall : List.take items.size (List.drop 0 items.toList) = items.toList := by
      rw [List.drop_zero]; exact List.take_of_length_le (by simp)
    rw [hall]
    rw [if_neg (by simp)]
    have ht₁ : h₁.IsList t items := isList_but (isList_push ht _) hs₁.extBut hlt
    refine wpAny_bind (wpAny_holding (wpAny_pyNext_list_end hh hit₁ ht₁ (by simp) fun h₂ he₂ => ?_))
    simp only [Option.isSome_none, Bool.false_eq_true, if_false]
    refine wpAny_pure (hQ h₂ fun b o hb e => he₂ b o hb (hs₁.extBut b o hb (Heap.get?_push_of_some _ e)))
theorem assign_Tuple_listU {env : Env} {elts : List Expr} {x1} {pos : Pos} {t : Addr} {items : Array Value} {Q : Unit → Shared → Prop} (hh : A.handled = none) (ht : s.heap.IsList t items)
    (hn : (assignEach elts env).length = items.size) (hstar : (assignEach elts env).findIdx? (·.1) = none)
    (h : ∀ h', Heap.ExtBut s.heap.objs.size s.heap h' → wpAny (model prog w) A (assignInOrder ((assignEach elts env).map (·.2)) items.toList) Q E { s with heap := h' }) :
    wpAny (model prog w) A (assign (.Tuple elts x1 pos) env (.ref t)) Q E s := by
  rw [assign_Tuple]
  refine wpAny_bind (wpAny_standAt ?_)
  unfold unpack
  rw [hn, hstar]
  exact wpAny_bind (wpAny_holding (unpackItems_listU hh ht h))
end
end PyProof.Rows
namespace L2
open PySem PySem.Spec PyProof.Rows
def gLstU (K : PySem.W.Frag) (n : Nat) (t : TGs) : TG := fun v σ H Q => ∃ a xs, v = .ref a ∧ SqL K H a xs ∧ xs.length = n ∧ t xs σ H Q
theorem pg_lstU {X : Cx} {pos : Pos} {es : List Expr} {k : Nat} {t : TGs} {n : Nat} (hc : X.calm = true) (h : PGs X es t)
    (hn : (assignEach es X.env).length = n := by rfl) (hst : (assignEach es X.env).findIdx? (·.1) = none := by rfl) : PG X (.Tuple es k pos) (gLstU X.K n t) := by
  refine ⟨fun pins s σ H v u Q I r hw => ?_⟩
  obtain ⟨a, xs, e1, hq, hl, hw⟩ := hw
  subst e1
  cases r
  obtain ⟨its, rv, ht, hz⟩ := I.list hq
  refine assign_Tuple_listU (I.ok.hd hc) ht.isList (by simp [hn, ← hl, rv.length]) hst fun h' hx => ?_
  have I1 : Inv X pins σ H { s with heap := h' } := I.kept (t' := s.toks) fun b o e => hx b o (Nat.ne_of_lt (Heap.lt_size e)) e
  exact h.run pins _ σ H xs _ Q I1 (by simpa using rv) hw
end L2
namespace Mir
open PySem SX L2
/-- a, b, .. = a list, of the store or not -/
def sAsgL (f : ED) (n : Nat) (tg : List D → Ev → Option Ev) : SD := fun τ s => (f τ s).bind fun d s => match seqL s d with
  | some ds => if ds.length = n then (match tg ds τ with
    | some τ1 => .ok (.nx τ1) s
    | none => .no) else .no
  | none => .no
section
variable {c : Ctx}
theorem ds_asgL {es : List Expr} {k n : Nat} {e : Expr} {f : ED} {ws : List Nat} {fg : List D → Ev → Option Ev} {pos pos' : Pos} (he : DE .z c e f) (hg : DGs c es ws fg) (hc : c.X.calm = true := by rfl) (hn : (assignEach es c.X.env).length = n := by rfl) (hst : (assignEach es c.X.env).findIdx? (·.1) = none := by rfl)
    (hO : ws.all (fun i => !c.O i) = true := by rfl) (hs : swapsWithSole [.Tuple es k pos'] e pos.line c.X.env = pure false := by rfl) (hw : swappedStores [.Tuple es k pos'] e c.X.env = pure none := by rfl)
    (h1 : (assignEach [.Tuple es k pos'] c.X.env).map (·.2) = [assign (.Tuple es k pos') c.X.env] := by rfl) : DS c (.Assign [.Tuple es k pos'] e pos) (sAsgL f n fg) := by
  obtain ⟨t, pt, qt⟩ := he
  obtain ⟨u, pg, qg⟩ := hg
  have hO : ∀ i ∈ ws, c.O i = false := fun i hi => by
    have := List.all_eq_true.mp hO i hi
    simpa using this
  refine ⟨_, ps_asg pt (pg_lstU hc pg hn hst) hs hw h1, fun g0 H0 g H s σ τ Dn o h => qt g H s σ τ _ o.ok (Ps.seq o h fun d s1 g1 H1 _ e1 w1 o1 h6 v rv => ?_)⟩
  cases z0 : seqL s1 d with
  | none => rw [z0] at h6; exact h6.elim
  | some ds =>
    rw [z0] at h6
    have h6 : Ps c g0 H0 g1 Dn (if ds.length = n then (match fg ds τ with | some τ1 => R.ok (Fl.nx τ1) s1 | none => R.no) else R.no) := h6
    by_cases hl : ds.length = n
    · rw [if_pos hl] at h6
      cases z : fg ds τ with
      | none => rw [z] at h6; exact h6.elim
      | some τ1 =>
        rw [z] at h6
        obtain ⟨a, us, rfl, h2, r2⟩ := seqL_ok (H0 := H1) w1 (.inl rv) z0
        exact ⟨a, us, rfl, h2, r2.length.trans hl, qg g1 H1 s1 σ τ us ds τ1 _ w1 r2 z fun σ1 a => h6 g1 H1 σ1 (Le.refl _) (o1.wr hO a)⟩
    · rw [if_neg hl] at h6
      exact h6.elim
end
section
variable {X : XP} {τ : Ev} {s : Sto} {a : ED} {QS : Fl → Sto → Prop}
theorem wp_asgL {n : Nat} {tg : List D → Ev → Option Ev} : wp (sAsgL a n tg τ s) QS X = wp (a τ s) (fun d s => onO (seqL s d) fun ds => onC (decide (ds.length = n)) (onO (tg ds τ) fun τ' => QS (.nx τ') s)) X := by
  unfold sAsgL; rw [wp_bind]; refine wp_cg fun d s => ?_
  unfold onO onC
  cases h : seqL s d with
  | none => exact propext ⟨fun k => k.elim, fun ⟨_, h, _⟩ => nomatch h⟩
  | some ds =>
    show wp (if ds.length = n then (match tg ds τ with | some τ1 => R.ok (Fl.nx τ1) s | none => R.no) else R.no) QS X = _
    by_cases hl : ds.length = n
    · rw [if_pos hl]
      cases h : tg ds τ with
      | none => exact propext ⟨fun k => k.elim, fun ⟨_, h1, _, _, h2, _⟩ => by cases h1; rw [h] at h2; cases h2⟩
      | some τ' => exact propext ⟨fun k => ⟨_, rfl, decide_eq_true hl, _, h, k⟩, fun ⟨_, h1, _, _, h2, k⟩ => by cases h1; rw [h] at h2; cases h2; exact k⟩
    · rw [if_neg hl]
      exact propext ⟨fun k => k.elim, fun ⟨_, h1, h2, _⟩ => by cases h1; exact absurd (of_decide_eq_true h2) hl⟩
end
end Mir

set_option Elab.async false
set_option linter.all false
set_option maxRecDepth 100000
set_option maxHeartbeats 1000000
/-! Mir, part Sp: max(list, default = d). -/
namespace L2
open PySem PySem.Spec PyProof.Rows
def mxI (n : Int) (ns : List Int) : Int := ns.foldl max n
def tMaxDf (K : PySem.W.Frag) (te : TE) (tk : TE) : TE := fun σ H Q => te σ H fun x H1 => tk σ H1 fun y H2 => ∃ a ns, x = .ref a ∧ SqL K H2 a (ns.map V.int) ∧ (match ns with
  | [] => Q y H2
  | n :: ns => Q (.int (mxI n ns)) H2)
theorem dpAll_ints {K : PySem.W.Frag} {H : Hp} : ∀ ns : List Int, DpAll K H (ns.map V.int) (ns.map PyData.int)
  | [] => .nil
  | n :: ns => .cons (.int n) (dpAll_ints ns)
theorem alike_intsU (ns : List Int) : PySem.W.AlikeAll (ns.map PyData.int) := by
  refine ⟨fun x hx y hy => ?_, fun x hx => ?_⟩
  · obtain ⟨a, _, rfl⟩ := List.mem_map.mp hx
    obtain ⟨b, _, rfl⟩ := List.mem_map.mp hy
    rfl
  · obtain ⟨a, _, rfl⟩ := List.mem_map.mp hx
    intro h; cases h
theorem depth_intsU : ∀ ns : List Int, PyData.depthAll (ns.map PyData.int) = 0
  | [] => by simp [PyData.depthAll]
  | n :: ns => by simp [PyData.depthAll, PyData.depth, depth_intsU ns]
theorem pe_maxDf {X : Cx} {e ke : Expr} {te tk : TE} {p pos kpos : Pos} (hc : X.calm = true) (hu : X.A.units + 66 < cLine) (hg : Gl X "max") (hm : X.mg "max" = none) (hv : bootBuiltins "max" = some (.builtin "max")) (ha : PE X e te) (hk : PE X ke tk)
    (hs : starEach [e] X.env = (false, eval e X.env) :: starEach [] X.env := by rfl) (he : backTo pos (starEach [e] X.env) = (false, eval e X.env) :: backTo pos (starEach [] X.env) := by rfl) (hplain : (backTo pos (starEach [e] X.env)).any (·.1) = false := by rfl)
    (hall : (backToKw pos (keywordEach [⟨some "default", ke, kpos⟩] X.env)).all (·.1.isSome) = true := by rfl) (hks : (backToKw pos (keywordEach [⟨some "default", ke, kpos⟩] X.env)).filterMap (·.1) = [("default" : Str)] := by rfl)
    (hkw : (backToKw pos (keywordEach [⟨some "default", ke, kpos⟩] X.env)).any (·.1.isNone) = false := by rfl) : PE X (.Call (.Name "max" p) [e] [⟨some "default", ke, kpos⟩] pos) (tMaxDf X.K te tk) := by
  refine ⟨fun pins s σ H Q I h => ?_⟩
  refine wpAny_Call_Name_kw (ld_blt I hg hm hv ?_ (by decide) (by decide))
  let QM : List V → V → Hp → Prop := fun vs y H2 => ∃ a ns, vs = [.ref a] ∧ SqL X.K H2 a (ns.map V.int) ∧ (match ns with
    | [] => Q y H2
    | n :: ns => Q (.int (mxI n ns)) H2)
  let QA : List V → Hp → Prop := fun vs H1 => match vs with
    | [x] => tk σ H1 fun y H2 => ∃ a ns, x = .ref a ∧ SqL X.K H2 a (ns.map V.int) ∧ (match ns with
      | [] => Q y H2
      | n :: ns => Q (.int (mxI n ns)) H2)
    | _ => False
  refine callWith_kw (thn ((pa_cons ha pa_nil hs).run pos pins s σ H QA I h) fun us s1 ⟨vs, H1, I1, r, q⟩ => ?_) he hplain hall hkw
  match vs, r, q with
  | [x], .cons (b := u) rx .nil, q =>
    let QB : List V → Hp → Prop := fun zs H2 => match zs with
      | [y] => ∃ a ns, x = .ref a ∧ SqL X.K H2 a (ns.map V.int) ∧ (match ns with
        | [] => Q y H2
        | n :: ns => Q (.int (mxI n ns)) H2)
      | _ => False
    refine thn ((pk_cons hk pk_nil).run pos pins s1 σ H1 QB I1 q) fun ws s2 ⟨zs, H2, I2, rz, q2⟩ => ?_
    rw [hks]
    match zs, rz, q2 with
    | [y], .cons (b := w) ry .nil, q2 =>
      obtain ⟨a, ns, rfl, hl, q3⟩ := q2
      obtain rfl : u = Value.ref a := rx
      obtain ⟨its, rv, hli, _⟩ := I2.list hl
      obtain ⟨as, ra⟩ := Dp.readsAll I2 _ _ its (dpAll_ints ns) rv
      refine PySem.W.max_list_default (I2.ok.hd hc) hli.isList (by simpa using ra) (alike_intsU ns) (by rw [depth_intsU]; omega) (fun h0 h' tk hk' => ?_) (fun y0 ys i v h' tk bs e1 _ e3 hk' => ?_)
      · cases ns with
        | nil => exact ⟨y, H2, I2.kept hk', ry, q3⟩
        | cons n ns => cases h0
      · cases ns with
        | nil => cases e1
        | cons n ns =>
          have e1 : PyData.int n :: ns.map PyData.int = y0 :: ys := e1
          injection e1 with e1 e2
          subst e1 e2
          rw [PySem.W.maxD_ints] at e3
          cases e3
          exact ⟨.int _, H2, I2.kept hk', ⟨_, rfl⟩, q3⟩
end L2
namespace Mir
open PySem SX L2
/-- max(a, default = b) of ints -/
def maxDf (x y : D) : Option D := match x with
  | .lst ds => match intsOf ds with
    | some [] => some y
    | some (n :: ns) => some (.int (mxI n ns))
    | none => none
  | _ => none
section
variable {c : Ctx}
theorem de_maxDf {e ke : Expr} {fa fk : ED} {p pos kpos : Pos} (hu : c.X.A.units + 66 < cLine) (ha : DE .b c e fa) (hk : DE .z c ke fk) (hm : c.X.mg "max" = none) (hv : bootBuiltins "max" = some (.builtin "max")) (hc : c.X.calm = true := by rfl) (hg : Gl c.X "max" := by rfl)
    (hs : starEach [e] c.X.env = (false, eval e c.X.env) :: starEach [] c.X.env := by rfl) (he : backTo pos (starEach [e] c.X.env) = (false, eval e c.X.env) :: backTo pos (starEach [] c.X.env) := by rfl) (hplain : (backTo pos (starEach [e] c.X.env)).any (·.1) = false := by rfl)
    (hall : (backToKw pos (keywordEach [⟨some "default", ke, kpos⟩] c.X.env)).all (·.1.isSome) = true := by rfl) (hks : (backToKw pos (keywordEach [⟨some "default", ke, kpos⟩] c.X.env)).filterMap (·.1) = [("default" : Str)] := by rfl)
    (hkw : (backToKw pos (keywordEach [⟨some "default", ke, kpos⟩] c.X.env)).any (·.1.isNone) = false := by rfl) : DE .z c (.Call (.Name "max" p) [e] [⟨some "default", ke, kpos⟩] pos) (e2 maxDf fa fk) := by
  obtain ⟨ta, pa, qa⟩ := ha
  obtain ⟨tb, pb, qb⟩ := hk
  refine de_mk (pe_maxDf hc hu hg hm hv pa pb hs he hplain hall hks hkw) fun g H s σ τ Q o h => ?_
  refine qa g H s σ τ _ o (Pg.seq h fun x s1 g1 H1 er e1 w1 h1 v rx0 => qb g1 H1 s1 σ τ _ (o.ext e1 w1) (Pg.seq h1 fun y s2 g2 H2 er' e2 w2 h2 u ry => ?_))
  have rx := rx0.extB (H1 := H1) e2
  clear rx0
  obtain ⟨d, ed, k⟩ := h2.opt
  unfold maxDf at ed
  split at ed
  · rename_i ds
    obtain ⟨a, us, rfl, h3, r3⟩ := rx.lst w2
    cases z : intsOf ds with
    | none => rw [z] at ed; cases ed
    | some ns =>
      rw [z] at ed
      rw [r3.intsOf z] at h3
      refine ⟨a, ns, rfl, SqL.of h3, ?_⟩
      cases ns with
      | nil => cases ed; exact k g2 H2 (Ext.refl _ _) w2 _ ry
      | cons n ns => cases ed; exact k g2 H2 (Ext.refl _ _) w2 _ (show Rep c.X.K g2 _ _ from .int _)
  · cases ed
end
end Mir

set_option Elab.async false
set_option linter.all false
set_option maxRecDepth 100000
set_option maxHeartbeats 1000000
/-! Mir, part Sq: list(text); defs that tell a list of nobody's. -/
namespace L2
open PySem PySem.Spec PyProof.Rows
def signsV (x : Str) : List V := x.cps.toList.map fun k => .str ⟨#[k]⟩
theorem vals_signs {x : Str} {acc : Array Value} (h : ItemsOf (SignAt x) acc x.cps.size) : Vals (signsV x) acc.toList := by
  obtain ⟨h1, h2⟩ := h
  have key : ∀ (cs : List Nat) (vs : List Value), vs.length = cs.length → (∀ (i : Nat) (v : Value), vs[i]? = some v → ∃ (c : Nat) (u : Tok), cs[i]? = some c ∧ v = Value.str ⟨#[c]⟩ u) → Vals (cs.map fun k => V.str ⟨#[k]⟩) vs := by
    intro cs
    induction cs with
    | nil => intro vs hl _; cases vs with | nil => exact .nil | cons => cases hl
    | cons c cs ih =>
      intro vs hl hv
      cases vs with
      | nil => cases hl
      | cons v vs =>
        obtain ⟨c', u, e1, e2⟩ := hv 0 v rfl
        have e1 : c = c' := by simpa using e1
        subst e1 e2
        exact .cons ⟨u, rfl⟩ (ih vs (by simpa using hl) fun i w hw => by
          obtain ⟨c2, u2, e3, e4⟩ := hv (i + 1) w (by simpa using hw)
          exact ⟨c2, u2, by simpa using e3, e4⟩)
  refine key x.cps.toList acc.toList (by simp [h1]) fun i v hv => ?_
  obtain ⟨c, u, e1, e2⟩ := h2 i v (by simpa using hv)
  exact ⟨c, u, by simpa using e1, e2⟩
theorem call_listTxt {X : Cx} (hc : X.calm = true) : CallR X (.type "list") (fun xs H Q => ∃ x : Str, xs = [.str x] ∧ x.cps.size ≤ sizeLine ∧ ∀ l, H l = none → Q (.ref l) (upd H l (.lst (signsV x)))) := by
  intro pins s σ H xs us Q I r h
  obtain ⟨x, rfl, hz, q⟩ := h
  obtain ⟨u, rfl, t, rfl⟩ := vals1 r
  refine call_list_str (I.ok.hd hc) x t (fun h' tk acc' c' kp e it => ?_) hz
  have hv := vals_signs it
  refine ⟨.ref s.heap.objs.size, _, I.laid (t' := tk) kp (Nat.le_refl _) (show ObjOk X.prog X.w _ h' _ (.lst (signsV x)) from ⟨?_, acc'.toList, c', hv, by simpa using e⟩), rfl, q _ (I.hok.fresh (Nat.le_refl _))⟩
  show (signsV x).length ≤ sizeLine
  unfold signsV
  simpa using hz
end L2
namespace Mir
open PySem PySem.Spec PyProof.Rows SX L2
def spOfO (K : PySem.W.Frag) (T : List (Addr × Str)) (F : FD) : Sp := fun vs H Q E => ∃ g s ds, WF K T g H s ∧ Reps K g vs ds ∧ match F ds s with
  | .ok d s' => ∀ v g' H', Ext g H g' H' → WF K T g' H' s' → RK .o K g' H H' v d → Q v H'
  | .exc cl s' => ∀ g' H', Ext g H g' H' → WF K T g' H' s' → E (clsV K cl) none H'
  | .no => False
structure HasMO (P : Program) (w : World) (K : PySem.W.Frag) (mg : Str → Option Value) (base : Heap) (T : List (Addr × Str)) (C m : Str) (k : Nat) (F : FD) : Prop where
  c : Cls K (He.ga K C)
  ex : ∃ f fd ps, Meth K (He.ga K C) m f ∧ Binds K fd ps [] ∧ FnOk P w K mg base (L2N.CX P w) k f fd ps (spOfO K T F)
abbrev HasMOX (c : Ctx) (C m : Str) (k : Nat) (F : FD) : Prop := HasMO c.X.prog c.X.w c.X.K c.X.mg c.X.base c.T C m k F
section
variable {c : Ctx}
theorem Pg.spO {g : Gh} {H : Hp} {s : Sto} {F : FD} {ds : List D} {vs : List V} {C : D → Sto → Gh → Hp → Prop} {Q : VK} (w : WF c.X.K c.T g H s) (r : Reps c.X.K g vs ds) (h : Pg c g H C (F ds s)) (k : ∀ d s' v g' H', Ext g H g' H' → WF c.X.K c.T g' H' s' → RK .o c.X.K g' H H' v d → C d s' g' H' → Q v H') : spOfO c.X.K c.T F vs H Q c.W := by
  refine ⟨g, s, ds, w, r, ?_⟩
  cases q : F ds s with
  | ok d s' => rw [q] at h; exact fun v g' H' e' w' r' => k d s' v g' H' e' w' r' (h g' H' e' w')
  | exc cl s' => rw [q] at h; exact fun g' H' e' w' => h g' H' e' w'
  | no => rw [q] at h; exact h
theorem evs_methO {C m : Str} {F : FD} {fa : ED} {fs : AD} {ta : TE} {t : TA} (qa : Evs .z c ta fa) (qt : Eva .z c t fs) : Evs .o c (tMeth (He.ga c.X.K C) m (spOfO c.X.K c.T F) [] c.W ta t) (eMeth C m F fa fs) := fun g H s σ τ Q o h =>
  qa g H s σ τ _ o (Pg.seq h fun x s1 g1 H1 _ e1 w1 h1 v rx => by
    by_cases hi : isIns C m s1 x = true
    · rw [if_pos hi] at h1
      have rx : Rep c.X.K g1 v x := rx
      obtain ⟨a, dx, fv, rfl, ha, hl⟩ := isIns_ok w1 rx hi
      refine ⟨a, dx, fv, rfl, ha, hl, qt g1 H1 s1 σ τ _ (o.ext e1 w1) (Pg.seq h1 fun xs s2 g2 H2 _ e2 w2 h2 vs rs => ?_)⟩
      show spOfO c.X.K c.T F (V.ref a :: (vs ++ [])) H2 Q c.W
      rw [List.append_nil]
      exact h2.spO w2 (.cons (rx.mono e2.le) rs.reps) fun d s' v g' H' e' w' r' k => k v (r'.ext (Ext.refl _ _) fun p q => e1.fresh (e2.fresh q))
    · rw [if_neg hi] at h1; exact h1.elim)
theorem de_methO {o e : Expr} {es : List Expr} {C m : Str} {j k : Nat} {F : FD} {fa : ED} {fs : AD} {pl : Sem Bool} {apos pos : Pos} (h : HasMOX c C m j F) (hr : Room k c.X.A) (hx : Passes (L2N.CX c.X.prog c.X.w) c.X c.W) (ho : DE .z c o fa) (ha : DA .z c (e :: es) fs) (hjk : j ≤ k := by decide)
    (hst : starEach (e :: es) c.X.env = (false, eval e c.X.env) :: starEach es c.X.env := by rfl) (hpl : (backTo pos (starEach es c.X.env)).any (·.1) = false := by rfl)
    (ht : eval (.Call (.Attribute o m apos) (e :: es) [] pos) c.X.env = (do
      let ov ← eval o c.X.env
      standAt apos.atName
      let (f, first) ← holding [ov] (getMethod ov m pl)
      callWith pos f first (backTo pos (starEach (e :: es) c.X.env)) (backToKw pos (keywordEach [] c.X.env))) := by rfl) : DE .o c (.Call (.Attribute o m apos) (e :: es) [] pos) (eMeth C m F fa fs) := by
  obtain ⟨f, fd, ps, hm, hb, hf⟩ := h.ex
  obtain ⟨ta, pa, qa⟩ := ho
  obtain ⟨t, pt, qt⟩ := ha
  exact de_mk (pe_meth pa h.c hm hf (hr.mono hjk) hb .nil hx pt hst hpl ht) (evs_methO qa qt)
def listT : List D → Option D
  | [.str x] => if x.cps.size ≤ 1000 then some (.lst (x.cps.toList.map fun k => .str ⟨#[k]⟩)) else none
  | _ => none
theorem reps_signs {K : PySem.W.Frag} {g : Gh} : ∀ cs : List Nat, Reps K g (cs.map fun k => V.str ⟨#[k]⟩) (cs.map fun k => D.str ⟨#[k]⟩)
  | [] => .nil
  | c :: cs => .cons (.str _) (reps_signs cs)
theorem cd_listT (hc : c.X.calm = true := by rfl) : CallD c (.type "list") listT := by
  refine ⟨_, call_listTxt hc, fun g H s xs ds d Q w rs e k => ?_⟩
  unfold listT at e
  split at e
  · rename_i x
    split at e
    · rename_i hz
      cases e
      obtain ⟨v, rfl, r⟩ := rs.one1
      have hv : v = .str x := r.str
      subst hv
      exact ⟨x, rfl, Nat.le_trans hz (by decide +kernel), fun l hn => k.lst w (reps_signs _) hn⟩
    · cases e
  · cases e
def PsO (c : Ctx) (g0 : Gh) (H0 : Hp) (g : Gh) (Dn : L2.Ends) : R Fl → Prop
  | .ok (.nx τ') s' => ∀ g' H' σ', Le g g' → SOk c g0 H0 g' H' s' σ' τ' → Dn.nx σ' H'
  | .ok (.bk τ') s' => ∀ g' H' σ', Le g g' → SOk c g0 H0 g' H' s' σ' τ' → Dn.bk σ' H'
  | .ok (.ct τ') s' => ∀ g' H' σ', Le g g' → SOk c g0 H0 g' H' s' σ' τ' → Dn.ct σ' H'
  | .ok (.rt d) s' => ∀ g' H' v, Ext g0 H0 g' H' → WF c.X.K c.T g' H' s' → RK .o c.X.K g' H0 H' v d → Dn.rt v H'
  | .exc cl s' => ∀ g' H', Ext g0 H0 g' H' → WF c.X.K c.T g' H' s' → c.W (clsV c.X.K cl) none H'
  | .no => False
def DSsO (c : Ctx) (sts : List Stmt) (f : SD) : Prop := ∃ t : TS, PSs c.X sts t ∧ ∀ g0 H0 g H s σ τ Dn, SOk c g0 H0 g H s σ τ → PsO c g0 H0 g Dn (f τ s) → t Dn σ H
/-- return e, a list of nobody's -/
theorem dssO_ret {e : Expr} {f : ED} {pos : Pos} (he : DE .o c e f) : DSsO c [.Return (some e) pos] (sRet f) := by
  obtain ⟨t, p, q⟩ := he
  refine ⟨tRet t, pss_one (ps_ret p), fun g0 H0 g H s σ τ Dn o h => ?_⟩
  refine q g H s σ τ _ o.ok ?_
  unfold sRet at h
  cases r : f τ s with
  | ok d s1 => rw [r] at h; exact fun g2 H2 e2 w2 v rv => h g2 H2 v (o.ext.trans e2) w2 (rv.ext (Ext.refl _ _) fun p q => o.ext.fresh q)
  | exc cl s1 => rw [r] at h; exact fun g2 H2 e2 w2 => h g2 H2 (o.ext.trans e2) w2
  | no => rw [r] at h; exact h
end
section
variable {P : Program} {w : World} {K : PySem.W.Frag} {mg : Str → Option Value} {base : Heap} {T : List (Addr × Str)} {x qual : Str} {params : Arguments} {body : List Stmt} {scope : Scope} {f : Addr} {fd : FuncData}
theorem fn_mkO {kws : List (Str × V)} {N ps : List Str} {k : Nat} {b : SD} (F : FunD K x qual params body scope [] kws f fd) (S : FnScope N ps scope)
    (hbody : ∀ (cdv : Value) (A : Around) (outer : List Env) (s : Shared) (H : Hp) (E : XK), Room k (A.deeper (envOfC qual scope s.heap.objs.size f cdv)) →
      Passes (L2N.CX P w) (cxD P w K mg base T N qual scope f cdv A outer s H E noO).X E → (L2N.Takes (cxD P w K mg base T N qual scope f cdv A outer s H E noO).X fun cls d _ H => E cls d H) → PassesOwn (model P w) (cxD P w K mg base T N qual scope f cdv A outer s H E noO).X.A (cxD P w K mg base T N qual scope f cdv A outer s H E noO).X.env (cxD P w K mg base T N qual scope f cdv A outer s H E noO).X.xe →
      DSsO (cxD P w K mg base T N qual scope f cdv A outer s H E noO) body b) : FnOk P w K mg base (L2N.CX P w) (k + 1) f fd ps (spOfO K T (fnM ps.length N.length b)) := by
  refine F.ok S (fun vs H Q E h => ?_) fun cdv A outer s H vs Q E hr h => ?_
  · obtain ⟨g, st, ds, w1, r, h⟩ := h
    rw [r.length]
    unfold fnM at h
    by_cases q : ds.length = ps.length
    · exact q
    · rw [if_neg q] at h; exact h.elim
  · have tk := L2N.takes_of (X := cxOf (L2N.CX P w) P w K mg base N qual scope f cdv A outer s H E) (E := E) rfl rfl rfl rfl
    obtain ⟨t, p, q⟩ := hbody cdv A outer s H E hr (L2N.passes_call tk fun _ _ _ _ h => h) tk (passes_of (X := cxOf (L2N.CX P w) P w K mg base N qual scope f cdv A outer s H E) rfl)
    refine ⟨t, p, ?_⟩
    obtain ⟨g, st, ds, w1, r, h⟩ := h
    unfold fnM at h
    by_cases hl : ds.length = ps.length
    · rw [if_pos hl] at h
      have lv := r.length
      have hO : ∀ i, i < ps.length → noO i = false := fun i hi => rfl
      have atS : ∀ i d, (ds.map some ++ List.replicate (N.length - ps.length) none)[i]? = some (some d) → i < ps.length ∧ ∃ v, (L2.start N vs)[i]? = some (some v) ∧ Rep K g v d := fun i d e => by
        by_cases hi : i < ds.length
        · rw [List.getElem?_append_left (by rw [List.length_map]; exact hi), List.getElem?_map] at e
          cases z : ds[i]? with
          | none => rw [z] at e; cases e
          | some d' =>
            rw [z] at e
            cases e
            obtain ⟨v, h1, h2⟩ := r.get z
            refine ⟨by omega, v, ?_, h2⟩
            unfold L2.start
            rw [List.getElem?_append_left (by rw [List.length_map]; omega), List.getElem?_map, h1]
            rfl
        · rw [List.getElem?_append_right (by rw [List.length_map]; omega)] at e
          rw [List.getElem?_replicate] at e
          split at e <;> cases e
      have o : SOk (cxD P w K mg base T N qual scope f cdv A outer s H E noO) g H g H st (L2.start N vs) (ds.map some ++ List.replicate (N.length - ps.length) none) := by
        refine ⟨⟨w1, ⟨?_, fun i d e => ?_, fun i j p hi hj hij e1 e2 => ?_⟩⟩, Ext.refl _ _, fun i p d hi e1 e2 => ?_⟩
        · unfold L2.start
          rw [List.length_append, List.length_append, List.length_map, List.length_map, List.length_replicate, List.length_replicate, lv, hl]
        · obtain ⟨hi, v, h1, h2⟩ := atS i d e
          refine ⟨v, h1, ?_⟩
          show if noO i = true then _ else _
          rw [hO i hi, if_neg Bool.false_ne_true]
          exact h2
        · have hi' : noO i = true := hi
          by_cases hlt : i < ps.length
          · rw [hO i hlt] at hi'; cases hi'
          · unfold L2.start at e1
            rw [List.getElem?_append_right (by rw [List.length_map]; omega), List.getElem?_replicate] at e1
            split at e1 <;> cases e1
        · obtain ⟨hlt, _⟩ := atS i d e1
          have hi' : noO i = true := hi
          rw [hO i hlt] at hi'; cases hi'
      refine q g H g H st (L2.start N vs) _ _ o ?_
      cases z : b (ds.map some ++ List.replicate (N.length - ps.length) none) st with
      | ok fl s1 =>
        rw [z] at h
        cases fl with
        | nx τ1 => exact fun g' H' σ' l' o' => h .non g' H' o'.ext o'.ok.wf (.inl ⟨rfl, .non⟩)
        | bk τ1 => exact h.elim
        | ct τ1 => exact h.elim
        | rt d => exact fun g' H' v e' w' r' => h v g' H' e' w' r'
      | exc cl s1 => rw [z] at h; exact h
      | no => rw [z] at h; exact h
    · rw [if_neg hl] at h; exact h.elim
end
end Mir

set_option Elab.async false
set_option linter.all false
set_option maxRecDepth 100000
set_option maxHeartbeats 1000000
/-! Mir, part Sr: x.extend(list). -/
namespace PySem.AutoSeq1
theorem list_extendU (l : Addr) (items : Array Value) (n : Nat) (b : Addr) (items2 : Array Value) (n2 : Nat) (od : Option Addr) (osl : Array (Option Value)) (hc0 : ¬(!items.isEmpty && Builtin.List.listTooLong (items.size + items2.size)) = true) (hc1 : items.size ≤ sizeLine) (hs2 : items.size + items2.size ≤ sizeLine + 1 := by seq_fits) :
    Meets (Builtin.«list.extend» ⟨[.ref l, .ref b], []⟩) (fun _ R s => s.heap.get? l = some { cls := .type "list", dict := none, data := .seq items n, slots := #[] } ∧ s.heap.get? b = some { cls := .type "list", dict := od, data := .seq items2 n2, slots := osl } ∧ R (.ok (.ret Value.none)) { s with heap := s.heap.update l (Obj.mapSeq fun xs => xs ++ items2) }) :=
  .of_wp fun prog w A R s h => by
    obtain ⟨hp, g, d, tk, os⟩ := s; obtain ⟨hl, hb, h⟩ := h; have f1 := idx_int; have f2 := sub_tuple_tuple; have f3 := sub_list_list; have f4 := sub_tuple_list; have f5 := sub_list_tuple;
    have hz' : (items ++ items2).size ≤ sizeLine + 1 := by rw [Array.size_append]; exact hs2
    wp_walk using (wpAny_updateSeq hl rfl (hz := hc1) (_hz' := hz')), wpAny_loadPart' hl, wpAny_loadPart' hb; exact ⟨_, rfl, h⟩
end PySem.AutoSeq1
namespace L2
open PySem PySem.Spec PyProof.Rows
def rExtendU (K : PySem.W.Frag) : V → List V → Hp → VK → Prop := fun x vs H Q => ∃ l b xs zs, x = .ref l ∧ vs = [.ref b] ∧ H l = some (.lst xs) ∧ SqL K H b zs ∧ xs.length + zs.length ≤ sizeLine ∧ Q .non (upd H l (.lst (xs ++ zs)))
theorem mt_extendU {X : Cx} : MtM X "list.extend" (rExtendU X.K) := by
  intro pins s σ H x vs v us Q I rx rv h
  obtain ⟨l, b, xs, zs, rfl, rfl, hH, hB, hz, q⟩ := h
  cases rx
  obtain ⟨u, rfl, ru⟩ := rv.one
  cases ru
  obtain ⟨z, its, n, r, hl, e⟩ := I.lstM hH
  obtain ⟨its2, r2, ⟨o, n2, e2, oc, odc, od⟩, z2⟩ := I.list hB
  have lr2 := r2.length
  have hsz : its.toArray.size + its2.toArray.size ≤ sizeLine := by rw [List.size_toArray, List.size_toArray]; omega
  have hlong : ¬ (!its.toArray.isEmpty && Builtin.List.listTooLong (its.toArray.size + its2.toArray.size)) = true := by
    rw [notLongL hsz, Bool.and_false]
    exact Bool.false_ne_true
  obtain ⟨oc', od', oda, osl⟩ := o
  have oc : oc' = .type "list" := oc
  have od : oda = .seq its2.toArray n2 := od
  subst oc od
  refine call_meets F.slot_list_extend ⟨_, e, rfl⟩ F.entry_list_extend (F.args_list_extend_2 _ _)
    (AutoSeq1.list_extendU l its.toArray n b its2.toArray n2 od' osl hlong (by rw [List.size_toArray]; omega) (by omega)) ⟨e, e2, ?_⟩
  refine ⟨.non, _, I.lset (its' := its ++ its2) hH e (by simp) (r.append r2) ?_, rfl, q⟩
  rw [List.length_append]
  omega
end L2
namespace Mir
open PySem SX L2
def sExt (i : Nat) (f : ED) : SD := fun τ => match τ[i]? with
  | some (some (.lst xs)) => fun s => (f τ s).bind fun d s => match seqL s d with
    | some ys => if small (xs.length + ys.length) = true then .ok (.nx (τ.set i (some (.lst (xs ++ ys))))) s else .no
    | none => .no
  | _ => fun _ => .no
section
variable {c : Ctx}
theorem ds_ext {i : Nat} {x : Str} {e : Expr} {f : ED} {p pos apos cpos : Pos} (he : DE .b c e f) (hO : c.O i = true := by rfl) (hN : c.X.N[i]? = some x := by rfl) (hv : Vis c.X.env.scope x := by first | exact Or.inl rfl | exact Or.inr (Or.inl rfl) | exact Or.inr (Or.inr rfl)) (hd : (x == ("__debug__" : Str)) = false := by decide)
    (hcd : (x == ("__classdict__" : Str)) = false := by decide) (hs : starEach [e] c.X.env = (false, eval e c.X.env) :: starEach [] c.X.env := by rfl)
    (hsw : swapsWith (.Call (.Attribute (.Name x p) "extend" apos) [e] [] cpos) none pos.line c.X.env = pure false := by rfl) 
    (hbase : attributeBase (.Name x p) "extend" c.X.env (eval (.Name x p) c.X.env) = eval (.Name x p) c.X.env := by rfl)
    (hfew : ((backTo cpos (starEach [e] c.X.env)).all (fun x => !x.1) && (backToKw cpos (keywordEach [] c.X.env)).all (fun x => x.1.isSome)
      && decide ([e].length + ([] : List Keyword).length + (if ([] : List Keyword).isEmpty then 0 else 1) < 30)) = true := by rfl)
    (hline : (apos.endLine == cpos.line) = true := by rfl) (hplain : (backTo cpos (starEach [] c.X.env)).any (·.1) = false := by rfl) :
    DS c (.Expr (.Call (.Attribute (.Name x p) "extend" apos) [e] [] cpos) pos) (sExt i f) := by
  obtain ⟨t, pt, qt⟩ := he
  refine ⟨_, ps_expr (pe_bm PySem.F.plainAttrs_list PySem.F.slot_list_extend PySem.F.type_list_extend mt_extendU (pe_var (i := i) hN hv hd hcd) (pa_cons pt pa_nil hs) hbase hfew hline hs hplain) hsw, fun g0 H0 g H s σ τ Dn o h => ?_⟩
  obtain ⟨ds, z, h⟩ := slotL (P := Ps c g0 H0 g Dn) (fun z => z) h
  obtain ⟨p, xs, h1, h2, h3, h4, h5⟩ := o.ownL hO z
  refine ⟨.ref p, h1, .inl ⟨rfl, xs, SqL.of h2⟩, qt g H s σ τ _ o.ok (Ps.seq o h fun d s1 g1 H1 _ e1 w1 o1 h6 v rv => ?_)⟩
  cases z9 : seqL s1 d with
  | none => rw [z9] at h6; exact h6.elim
  | some ys =>
    rw [z9] at h6
    have h6 : Ps c g0 H0 g1 Dn (if small (ds.length + ys.length) = true then R.ok (Fl.nx (τ.set i (some (.lst (ds ++ ys))))) s1 else R.no) := h6
    by_cases hz : small (ds.length + ys.length) = true
    · rw [if_pos hz] at h6
      have k2 : H1 p = some (.lst xs) := e1.keep p _ h2 h5 (fun ps => by simp)
      obtain ⟨a, us, rfl, q1, q2⟩ := seqL_ok w1 rv z9
      have ne : H p ≠ none := by rw [h2]; simp
      refine ⟨p, a, xs, us, rfl, rfl, k2, q1, ?_, ?_⟩
      · rw [h3.length, q2.length]
        exact of_decide_eq_true hz
      · refine h6 g1 _ σ (Le.refl _) (o1.mut i hO z h1 k2 (.inl ⟨xs, rfl⟩) (.lst ((e1.newG p ne).trans h4) (fun n q => ?_) upd_same ((h3.mono e1.le).append q2)))
        rcases e1.newR n p q with z | z
        · exact h5 n z
        · exact ne z
    · rw [if_neg hz] at h6
      exact h6.elim
end
section
variable {X : XP} {τ : Ev} {s : Sto} {a : ED} {QS : Fl → Sto → Prop}
theorem wp_ext {i : Nat} : wp (sExt i a τ s) QS X = onO (τ[i]?) fun o => onO o fun l => onL l fun xs => wp (a τ s) (fun d s => onO (seqL s d) fun ys => onC (small (xs.length + ys.length)) (onE (τ.set i (some (.lst (xs ++ ys)))) fun τ => QS (.nx τ) s)) X := by
  unfold sExt onO onL onC onE
  cases h : τ[i]? with
  | none => exact propext ⟨fun h => h.elim, fun ⟨_, h, _⟩ => nomatch h⟩
  | some o =>
    cases o with
    | none => exact propext ⟨fun h => h.elim, fun ⟨_, h1, _, h2, _⟩ => by cases h1; cases h2⟩
    | some l =>
      cases l with
      | lst xs =>
        show wp ((a τ s).bind _) QS X = _
        rw [wp_bind]
        refine propext ⟨fun k => ⟨_, rfl, _, rfl, xs, rfl, ?_⟩, fun ⟨_, h1, _, h2, xs', h3, k⟩ => ?_⟩
        · refine (wp_cg (fun d s => ?_)).mp k
          cases z : seqL s d with
          | none => exact propext ⟨fun h => h.elim, fun ⟨_, h, _⟩ => nomatch h⟩
          | some ys =>
            show wp (if small (xs.length + ys.length) = true then R.ok (Fl.nx (τ.set i (some (.lst (xs ++ ys))))) s else R.no) QS X = _
            by_cases hz : small (xs.length + ys.length) = true
            · rw [if_pos hz]; exact propext ⟨fun k => ⟨_, rfl, hz, k⟩, fun ⟨_, h1, _, k⟩ => by cases h1; exact k⟩
            · rw [if_neg hz]; exact propext ⟨fun k => k.elim, fun ⟨_, h1, h2, _⟩ => by cases h1; exact absurd h2 hz⟩
        · cases h1; cases h2; cases h3
          refine (wp_cg (fun d s => ?_)).mpr k
          cases z : seqL s d with
          | none => exact propext ⟨fun h => h.elim, fun ⟨_, h, _⟩ => nomatch h⟩
          | some ys =>
            show wp (if small (xs.length + ys.length) = true then R.ok (Fl.nx (τ.set i (some (.lst (xs ++ ys))))) s else R.no) QS X = _
            by_cases hz : small (xs.length + ys.length) = true
            · rw [if_pos hz]; exact propext ⟨fun k => ⟨_, rfl, hz, k⟩, fun ⟨_, h1, _, k⟩ => by cases h1; exact k⟩
            · rw [if_neg hz]; exact propext ⟨fun k => k.elim, fun ⟨_, h1, h2, _⟩ => by cases h1; exact absurd h2 hz⟩
      | _ => exact propext ⟨fun h => h.elim, fun ⟨_, h1, _, h2, _, h3, _⟩ => by cases h1; cases h2; cases h3⟩
end
section
variable {c : Ctx}
theorem ds_free (i : Nat) {st : Stmt} {f : SD} (h : DS (c.own fun j => if j = i then false else c.O j) st f) : DS c st (sFree i f) := by
  obtain ⟨t, p, q⟩ := h
  refine ⟨t, p, fun g0 H0 g H s σ τ Dn o h => ?_⟩
  obtain ⟨g1, l1, o1⟩ := o.freeze1 i
  refine q g0 H0 g1 H s σ τ Dn o1 ?_
  unfold sFree at h
  cases r : f τ s with
  | ok fl s1 =>
    rw [r] at h
    cases fl with
    | nx τ1 => exact fun g' H' σ' l' o' => h g' H' σ' (l1.trans l') o'.free
    | bk τ1 => exact fun g' H' σ' l' o' => h g' H' σ' (l1.trans l') o'.free
    | ct τ1 => exact fun g' H' σ' l' o' => h g' H' σ' (l1.trans l') o'.free
    | rt d => exact h
  | exc cl s1 => rw [r] at h; exact h
  | no => rw [r] at h; exact h
end
/-! x or y, of a text or None -/
def eOrS (a b : ED) : ED := fun τ s => (a τ s).bind fun x => match x with
  | .non => b τ
  | .str t => if small t.length = true then (if ((t.length : Int) != 0) = true then M.ret (.str t) else b τ) else fun _ => .no
  | _ => fun _ => .no
theorem RK.anyS {k : Kd} {K : PySem.W.Frag} {g : Gh} {H0 H : Hp} (x : Str) : RK k K g H0 H (.str x) (.str x) := by
  cases k with
  | z => exact Rep.str x
  | b => exact Or.inl (Rep.str x)
  | o => exact RK.of (Rep.str x)
section
variable {c : Ctx}
theorem de_orS {k k' : Kd} {a b : Expr} {rest : List Expr} {fa fb : ED} {pos : Pos} (ha : DE k c a fa) (hb : DE k' c (.BoolOp .Or (b :: rest) pos) fb) : DE k' c (.BoolOp .Or (a :: b :: rest) pos) (eOrS fa fb) := by
  obtain ⟨t, p, q⟩ := ha
  obtain ⟨u, p', q'⟩ := hb
  refine de_mk (pe_orT p p') fun g H s σ τ Q o h => q g H s σ τ _ o (Pg.seq h fun x s1 g1 H1 _ e1 w1 h1 v rx => ?_)
  cases x with
  | non =>
    rw [rx.non]
    refine ⟨false, rfl, ?_⟩
    rw [if_neg Bool.false_ne_true]; exact q' g1 H1 s1 σ τ Q (o.ext e1 w1) (h1.back e1)
  | str y =>
    rw [rx.str]
    by_cases hz : small y.length = true
    · refine ⟨_, ⟨small_line hz, rfl⟩, ?_⟩
      have h1 : Pg c g1 H1 _ ((if small y.length = true then (if ((y.length : Int) != 0) = true then (M.ret (.str y) : M D) else fb τ) else fun _ => .no) s1) := h1
      rw [if_pos hz] at h1
      cases z : ((y.length : Int) != 0) with
      | true => rw [z, if_pos rfl] at h1; rw [if_pos rfl]; exact Pg.now h1 w1 _ (.anyS y)
      | false => rw [z, if_neg Bool.false_ne_true] at h1; rw [if_neg Bool.false_ne_true]; exact q' g1 H1 s1 σ τ Q (o.ext e1 w1) (h1.back e1)
    · have h1 : Pg c g1 H1 _ ((if small y.length = true then (if ((y.length : Int) != 0) = true then (M.ret (.str y) : M D) else fb τ) else fun _ => .no) s1) := h1
      rw [if_neg hz] at h1
      exact h1.elim
  | _ => exact h1.elim
end
section
variable {X : XP} {τ : Ev} {s : Sto} {a b : ED} {Q : D → Sto → Prop}
theorem wp_orS {r : D} {s1 : Sto} (h : a τ s = .ok r s1) : wp (eOrS a b τ s) Q X = wp ((match r with
  | .non => b τ
  | .str t => if small t.length = true then (if ((t.length : Int) != 0) = true then (M.ret (.str t) : M D) else b τ) else fun _ => .no
  | _ => fun _ => .no) s1) Q X := by
  unfold eOrS; rw [h]; rfl
end
end Mir

set_option Elab.async false
set_option linter.all false
set_option maxRecDepth 100000
set_option maxHeartbeats 1000000
/-! Mir, part St: plain facts about stores: what stands where, what stays. -/
namespace Mir
open PySem SX L2
/-- from s to s' nothing but F (and what is new) has changed -/
structure Fr (F : List Nat) (s s' : Sto) : Prop where
  len : s.length ≤ s'.length
  eq : ∀ n, n < s.length → n ∉ F → s'[n]? = s[n]?
theorem Fr.refl (F : List Nat) (s : Sto) : Fr F s s := ⟨Nat.le_refl _, fun _ _ _ => rfl⟩
theorem Fr.trans {F : List Nat} {s s1 s2 : Sto} (a : Fr F s s1) (b : Fr F s1 s2) : Fr F s s2 := ⟨Nat.le_trans a.len b.len, fun n h hn => (b.eq n (Nat.lt_of_lt_of_le h a.len) hn).trans (a.eq n h hn)⟩
theorem Fr.mono {F F' : List Nat} {s s1 : Sto} (a : Fr F s s1) (h : ∀ n ∈ F, n < s.length → n ∈ F') : Fr F' s s1 := ⟨a.len, fun n hl hn => a.eq n hl fun z => hn (h n z hl)⟩
theorem Fr.set {s : Sto} {n : Nat} {ob : Ob} : Fr [n] s (s.set n ob) := ⟨by rw [List.length_set]; exact Nat.le_refl _, fun m _ hn => List.getElem?_set_ne (fun e => hn (by rw [e]; exact List.mem_singleton.mpr rfl))⟩
theorem Fr.app {F : List Nat} {s r : Sto} : Fr F s (s ++ r) := ⟨by rw [List.length_append]; omega, fun n h _ => List.getElem?_append_left h⟩
theorem sto_lt {s : Sto} {n : Nat} {ob : Ob} (h : s[n]? = some ob) : n < s.length := (List.getElem?_eq_some_iff.mp h).1
theorem Fr.at_ {F : List Nat} {s s1 : Sto} (a : Fr F s s1) {n : Nat} {ob : Ob} (h : s[n]? = some ob) (hn : n ∉ F) : s1[n]? = some ob := (a.eq n (sto_lt h) hn).trans h
/-- a class's instance: what its fields tell -/
theorem fld_at {s : Sto} {cs : List Str} {f : Str} {n : Nat} {cl : Str} {fs : List (Str × D)} {d : D} (h : s[n]? = some (.ins cl fs)) (hc : cl ∈ cs) (e : fs.lookup f = some d) : fldO cs f s (.obj n) = some d := (fldO_at h hc).trans e
theorem dct_at {s : Sto} {n : Nat} {kvs : List (Key × D)} (h : s[n]? = some (.dct kvs)) : dctAt s (.obj n) = some kvs := by
  show (match s[n]? with | some (.dct kvs) => some kvs | some (.lck kvs) => some kvs | _ => none) = _
  rw [h]
theorem dct_atL {s : Sto} {n : Nat} {kvs : List (Key × D)} (h : s[n]? = some (.lck kvs)) : dctAt s (.obj n) = some kvs := by
  show (match s[n]? with | some (.dct kvs) => some kvs | some (.lck kvs) => some kvs | _ => none) = _
  rw [h]
theorem lst_at {s : Sto} {n : Nat} {xs : List D} (h : s[n]? = some (.lst xs)) : lstAt s (.obj n) = some xs ∧ dctAt s (.obj n) = none ∧ seqL s (.obj n) = some xs := by
  refine ⟨?_, ?_, ?_⟩
  · show (match s[n]? with | some (.lst xs) => some xs | _ => none) = _
    rw [h]
  · show (match s[n]? with | some (.dct kvs) => some kvs | some (.lck kvs) => some kvs | _ => none) = _
    rw [h]
  · show (match s[n]? with | some (.lst xs) => some xs | _ => none) = _
    rw [h]
theorem ix_dct {s : Sto} {x k : D} {kvs : List (Key × D)} {q : Key} (h : dctAt s x = some kvs) (hk : keyD k = some q) : ixS s x k = dGet kvs q := by
  unfold ixS
  rw [h]
  show (keyD k).bind (dGet kvs) = _
  rw [hk]; rfl
theorem in_dct {s : Sto} {x k : D} {kvs : List (Key × D)} {q : Key} (h : dctAt s x = some kvs) (hk : keyD k = some q) : inS2 false s k x = some (.bl (dGet kvs q).isSome) ∧ inS2 true s k x = some (.bl (!(dGet kvs q).isSome)) := by
  unfold inS2
  rw [h, hk]
  exact ⟨rfl, rfl⟩
theorem ix_lst {s : Sto} {n : Nat} {xs : List D} {i : Int} (h : s[n]? = some (.lst xs)) : ixS s (.obj n) (.int i) = L2.atI xs i := by
  obtain ⟨h1, h2, _⟩ := lst_at h
  unfold ixS
  rw [h2, h1]
theorem set_dct {s : Sto} {n : Nat} {kvs : List (Key × D)} {k v : D} {q : Key} (h : s[n]? = some (.dct kvs)) (hk : keyD k = some q) (hl : kvs.length < 16777216) : setS s (.obj n) k v = some (s.set n (.dct (dPut kvs q v))) := by
  unfold setS
  dsimp only
  rw [h]
  dsimp only
  rw [hk]
  show (if kvs.length < 16777216 then some (s.set n (.dct (dPut kvs q v))) else none) = _
  rw [if_pos hl]
theorem set_lst {s : Sto} {n : Nat} {xs : List D} {i : Int} {j : Nat} {v : D} (h : s[n]? = some (.lst xs)) (hj : L2.ixN xs.length i = some j) : setS s (.obj n) (.int i) v = some (s.set n (.lst (xs.set j v))) := by
  show (match s[n]? with
    | some (.dct kvs) => (keyD (.int i)).bind fun q => if kvs.length < 16777216 then some (s.set n (.dct (dPut kvs q v))) else none
    | some (.lst xs) => (L2.ixN xs.length i).map fun j => s.set n (.lst (xs.set j v))
    | _ => none) = _
  rw [h]
  show (L2.ixN xs.length i).map (fun j => s.set n (.lst (xs.set j v))) = _
  rw [hj]; rfl
/-! ### dicts by their keys -/
theorem dGet_nil (k : Key) : dGet [] k = none := rfl
theorem dGet_cons {k q : Key} {d : D} {r : List (Key × D)} : dGet ((q, d) :: r) k = if q = k then some d else dGet r k := by
  unfold dGet
  rw [List.find?_cons]
  by_cases h : q = k
  · simp [h]
  · simp [h]
theorem dGet_map {α : Type} {f : α → Key} {g : α → D} {k : Key} : ∀ {l : List α}, (∃ a ∈ l, f a = k ∧ dGet (l.map fun a => (f a, g a)) k = some (g a)) ∨ ((∀ a ∈ l, f a ≠ k) ∧ dGet (l.map fun a => (f a, g a)) k = none)
  | [] => .inr ⟨fun _ h => by simp at h, rfl⟩
  | b :: l => by
    rw [List.map_cons, dGet_cons]
    by_cases h : f b = k
    · exact .inl ⟨b, by simp, h, by rw [if_pos h]⟩
    · rw [if_neg h]
      rcases dGet_map (f := f) (g := g) (k := k) (l := l) with ⟨a, h1, h2, h3⟩ | ⟨h1, h2⟩
      · exact .inl ⟨a, List.mem_cons_of_mem _ h1, h2, h3⟩
      · exact .inr ⟨fun a ha => (List.mem_cons.mp ha).elim (fun e => by rw [e]; exact h) (h1 a), h2⟩
theorem dPut_new {α : Type} {f : α → Key} {g : α → D} {k : Key} {v : D} {l : List α} (h : ∀ a ∈ l, f a ≠ k) : dPut (l.map fun a => (f a, g a)) k v = (l.map fun a => (f a, g a)) ++ [(k, v)] := by
  unfold dPut
  rw [if_neg]
  intro z
  obtain ⟨p, hp, e⟩ := List.any_eq_true.mp z
  obtain ⟨a, ha, rfl⟩ := List.mem_map.mp hp
  exact h a ha (of_decide_eq_true e)
end Mir

set_option Elab.async false
set_option linter.all false
set_option maxRecDepth 100000
set_option maxHeartbeats 1000000
/-! Mir, part Su: what is worked out at one store. -/
namespace Mir
open PySem SX L2
theorem ok_of {α : Type} {r : R α} {a : α} {s : Sto} (h : wp r (fun b s' => b = a ∧ s' = s) (fun _ _ => False)) : r = .ok a s := by
  cases r with
  | ok b s' => obtain ⟨rfl, rfl⟩ := h; rfl
  | exc c s' => exact h.elim
  | no => exact h.elim
theorem wp_of {α : Type} {r : R α} {a : α} {s : Sto} (h : r = .ok a s) : ∀ (Q : α → Sto → Prop) (X : XP), wp r Q X = Q a s := fun Q X => by rw [h]; rfl
theorem lcGo_at {tg : D → Ev → Option Ev} {ts : TD} {el : ED} {τ : Ev} {s : Sto} (p : D → Bool) (f : D → D) : ∀ (ds : List D), (∀ d ∈ ds, ∃ τ1, tg d τ = some τ1 ∧ ts τ1 s = .ok (p d) s ∧ (p d = true → el τ1 s = .ok (f d) s)) → lcGo tg ts el τ ds s = .ok ((ds.filter p).map f) s
  | [], _ => rfl
  | d :: ds, h => by
    obtain ⟨τ1, e1, h1, h2⟩ := h d List.mem_cons_self
    have ih := lcGo_at p f ds fun e he => h e (List.mem_cons_of_mem _ he)
    unfold lcGo
    rw [e1]
    show (ts τ1 s).bind _ = _
    rw [h1]
    cases hp : p d with
    | true =>
      show (el τ1 s).bind _ = _
      rw [h2 hp]
      show (lcGo tg ts el τ ds s).bind _ = _
      rw [ih, List.filter_cons, if_pos hp]
      rfl
    | false =>
      show lcGo tg ts el τ ds s = _
      rw [ih, List.filter_cons, if_neg (by rw [hp]; exact Bool.false_ne_true)]
theorem lc_at {it : AD} {tg : D → Ev → Option Ev} {ts : TD} {el : ED} {vs : List Nat} {τ : Ev} {s : Sto} {ds : List D} (p : D → Bool) (f : D → D) (hi : it τ s = .ok ds s) (hz : small ds.length = true) (h : ∀ d ∈ ds, ∃ τ1, tg d (wipeD τ vs) = some τ1 ∧ ts τ1 s = .ok (p d) s ∧ (p d = true → el τ1 s = .ok (f d) s)) : eLc it tg ts el vs τ s = .ok (.lst ((ds.filter p).map f)) s := by
  unfold eLc; rw [hi]; show (if small ds.length = true then fun s => (lcGo tg ts el (wipeD τ vs) ds s).bind fun ys => M.ret (D.lst ys) else fun _ => .no) s = _; rw [if_pos hz]; show (lcGo tg ts el (wipeD τ vs) ds s).bind _ = _; rw [lcGo_at p f ds h]; rfl
theorem lc0_at {it : AD} {tg : D → Ev → Option Ev} {ts : TD} {el : ED} {vs : List Nat} {τ : Ev} {s : Sto} {ds : List D} (p : D → Bool) (f : D → D) (hi : it τ s = .ok ds s) (hz : small ds.length = true) (h : ∀ d ∈ ds, ∃ τ1, tg d (wipeD τ vs) = some τ1 ∧ ts τ1 s = .ok (p d) s ∧ (p d = true → el τ1 s = .ok (f d) s)) : eLc0 it tg ts el vs τ s = .ok (.lst ((ds.filter p).map f)) s := by
  unfold eLc0; rw [hi]; show (if small ds.length = true then fun s => noX ((lcGo tg ts el (wipeD τ vs) ds s).bind fun ys => M.ret (D.lst ys)) else fun _ => .no) s = _; rw [if_pos hz]; show noX ((lcGo tg ts el (wipeD τ vs) ds s).bind _) = _; rw [lcGo_at p f ds h]; rfl
/-! ### sets of ints and texts -/
theorem keyDs_ints (l : List Int) : keyDs (l.map D.int) = some (l.map Sum.inl) := by
  induction l with
  | nil => rfl
  | cons a l ih => show (match keyD (.int a), keyDs (l.map D.int) with | some k, some ks => some (k :: ks) | _, _ => none) = _; rw [ih]; rfl
theorem keyDs_strs (l : List Str) : keyDs (l.map D.str) = some (l.map Sum.inr) := by
  induction l with
  | nil => rfl
  | cons a l ih => show (match keyD (.str a), keyDs (l.map D.str) with | some k, some ks => some (k :: ks) | _, _ => none) = _; rw [ih]; rfl
def dd {α : Type} [DecidableEq α] : List α → List α
  | [] => []
  | k :: r => if k ∈ dd r then dd r else k :: dd r
section
variable {α : Type} [DecidableEq α]
theorem mem_dd {k : α} : ∀ {l : List α}, k ∈ dd l ↔ k ∈ l
  | [] => Iff.rfl
  | j :: r => by
    unfold dd
    have ih := mem_dd (k := k) (l := r)
    split
    · rename_i h
      rw [ih, List.mem_cons]
      exact ⟨.inr, fun z => z.elim (fun e => by rw [e]; exact mem_dd.mp h) id⟩
    · rw [List.mem_cons, List.mem_cons, ih]
theorem nd_dd : ∀ l : List α, (dd l).Nodup
  | [] => List.nodup_nil
  | j :: r => by
    unfold dd
    split
    · exact nd_dd r
    · rename_i h; exact List.nodup_cons.mpr ⟨h, nd_dd r⟩
theorem dd_id : ∀ {l : List α}, l.Nodup → dd l = l
  | [], _ => rfl
  | j :: r, h => by
    obtain ⟨h1, h2⟩ := List.nodup_cons.mp h
    unfold dd
    rw [dd_id h2, if_neg h1]
end
theorem ddK_ints (l : List Int) : ddK (l.map Sum.inl) = (dd l).map Sum.inl := by
  induction l with
  | nil => rfl
  | cons a l ih =>
    show (if ((ddK (l.map Sum.inl)).any fun j => decide (j = Sum.inl a)) = true then ddK (l.map Sum.inl) else Sum.inl a :: ddK (l.map Sum.inl)) = _
    rw [ih]
    show _ = (if a ∈ dd l then dd l else a :: dd l).map Sum.inl
    by_cases h : a ∈ dd l
    · rw [if_pos h, if_pos]
      refine List.any_eq_true.mpr ⟨Sum.inl a, List.mem_map.mpr ⟨a, h, rfl⟩, ?_⟩
      simp
    · rw [if_neg h, if_neg]
      · rfl
      · intro z
        obtain ⟨q, hq, e⟩ := List.any_eq_true.mp z
        obtain ⟨b, hb, rfl⟩ := List.mem_map.mp hq
        have e := Sum.inl.inj (of_decide_eq_true e)
        exact h (by rw [← e]; exact hb)
theorem ddK_strs (l : List Str) : ddK (l.map Sum.inr) = (dd l).map Sum.inr := by
  induction l with
  | nil => rfl
  | cons a l ih =>
    show (if ((ddK (l.map Sum.inr)).any fun j => decide (j = Sum.inr a)) = true then ddK (l.map Sum.inr) else Sum.inr a :: ddK (l.map Sum.inr)) = _
    rw [ih]
    show _ = (if a ∈ dd l then dd l else a :: dd l).map Sum.inr
    by_cases h : a ∈ dd l
    · rw [if_pos h, if_pos]
      refine List.any_eq_true.mpr ⟨Sum.inr a, List.mem_map.mpr ⟨a, h, rfl⟩, ?_⟩
      simp
    · rw [if_neg h, if_neg]
      · rfl
      · intro z
        obtain ⟨q, hq, e⟩ := List.any_eq_true.mp z
        obtain ⟨b, hb, rfl⟩ := List.mem_map.mp hq
        have e := Sum.inr.inj (of_decide_eq_true e)
        exact h (by rw [← e]; exact hb)
theorem intsK_map (l : List Int) : intsK (l.map Sum.inl) = some l := by
  induction l with
  | nil => rfl
  | cons a l ih => show (intsK (l.map Sum.inl)).map (a :: ·) = _; rw [ih]; rfl
theorem strsK_map (l : List Str) : strsK (l.map Sum.inr) = some l := by
  induction l with
  | nil => rfl
  | cons a l ih => show (strsK (l.map Sum.inr)).map (a :: ·) = _; rw [ih]; rfl
theorem sortK_int (l : List Int) : sortK (l.map Sum.inl) = some ((sortI l).map Sum.inl) := by
  unfold sortK
  rw [intsK_map]
theorem sortK_str (l : List Str) : sortK (l.map Sum.inr) = some ((sortT l).map Sum.inr) := by
  cases l with
  | nil => rfl
  | cons a l =>
    unfold sortK
    show (match (none : Option (List Int)) with | some is => some ((sortI is).map Sum.inl) | none => (strsK ((a :: l).map Sum.inr)).map fun xs => (sortT xs).map Sum.inr) = _
    rw [strsK_map]
    rfl
theorem kD_int (l : List Int) : (l.map (Sum.inl : Int → Key)).map kD = l.map D.int := by rw [List.map_map]; rfl
theorem kD_str (l : List Str) : (l.map (Sum.inr : Str → Key)).map kD = l.map D.str := by rw [List.map_map]; rfl
theorem setKs_of {s : Sto} {x : D} {ds : List D} {ks : List Key} (h : seqA s x = some ds) (hk : keyDs ds = some ks) (hz : ks.length < 4000) : setKs s x = some ks := by
  unfold setKs
  rw [h]
  show (keyDs ds).bind _ = _
  rw [hk]
  show (if ks.length < 4000 then some ks else none) = _
  rw [if_pos hz]
theorem sortSet_int {s : Sto} {x : D} {l : List Int} (h : seqA s x = some (l.map D.int)) (hz : l.length < 4000) : sortSet s x = some (.lst ((sortI (dd l)).map D.int)) := by
  unfold sortSet
  rw [setKs_of h (keyDs_ints l) (by rw [List.length_map]; exact hz)]
  show (sortK (ddK (l.map Sum.inl))).map _ = _
  rw [ddK_ints, sortK_int]
  show some (D.lst (((sortI (dd l)).map Sum.inl).map kD)) = _
  rw [kD_int]
theorem sortSet_str {s : Sto} {x : D} {l : List Str} (h : seqA s x = some (l.map D.str)) (hz : l.length < 4000) : sortSet s x = some (.lst ((sortT (dd l)).map D.str)) := by
  unfold sortSet
  rw [setKs_of h (keyDs_strs l) (by rw [List.length_map]; exact hz)]
  show (sortK (ddK (l.map Sum.inr))).map _ = _
  rw [ddK_strs, sortK_str]
  show some (D.lst (((sortT (dd l)).map Sum.inr).map kD)) = _
  rw [kD_str]
theorem lenSet_str {s : Sto} {x : D} {l : List Str} (h : seqA s x = some (l.map D.str)) (hz : l.length < 4000) : lenSet s x = some (.int (dd l).length) := by
  unfold lenSet
  rw [setKs_of h (keyDs_strs l) (by rw [List.length_map]; exact hz)]
  show some (D.int (ddK (l.map Sum.inr)).length) = _
  rw [ddK_strs, List.length_map]
theorem sort_strs {s : Sto} {x : D} {l : List Str} (h : seqL s x = some (l.map D.str)) (hz : l.length ≤ 1000000) : sortS3 s [x] = some (.lst ((sortT l).map D.str)) := by
  have hk : keysOfS s x = some (l.map Sum.inr) := by
    unfold keysOfS
    rw [h]
    exact keyDs_strs l
  show (keysOfS s x).bind _ = _
  rw [hk]
  show (if small (l.map (Sum.inr : Str → Key)).length = true then (sortK (l.map Sum.inr)).map (fun ys => D.lst (ys.map kD)) else none) = _
  rw [if_pos (small_of (by rw [List.length_map]; omega)), sortK_str]
  show some (D.lst (((sortT l).map Sum.inr).map kD)) = _
  rw [kD_str]
/-- what is there of some numbers -/
theorem sorted_there {keys ns : List Int} (h : keys.Pairwise (· < ·)) : sortI (dd (ns.filter fun k => decide (k ∈ keys))) = keys.filter fun k => decide (k ∈ ns) := by
  symm
  refine sortI_uniq ?_ ((h.sublist (List.filter_sublist)).imp fun q => Int.le_of_lt q)
  refine (List.perm_ext_iff_of_nodup ?_ (nd_dd _)).mpr fun a => ?_
  · exact (h.imp fun q => Int.ne_of_lt q).sublist (List.filter_sublist)
  · rw [mem_dd, List.mem_filter, List.mem_filter, decide_eq_true_eq, decide_eq_true_eq]
    exact And.comm
end Mir

set_option Elab.async false
set_option linter.all false
set_option maxRecDepth 100000
set_option maxHeartbeats 1000000
/-! Mir, part Sv: plain things, == of them. -/
namespace Mir
open PySem SX L2
/-- plain things: what they are, how deep -/
def Pl (n : Nat) (d : D) : Prop := ∃ p, toP d = some p ∧ PyData.canLay0 p = true ∧ PyData.depth p ≤ n
def Pls (n : Nat) (ds : List D) : Prop := ∃ ps, toPs ds = some ps ∧ PyData.canLayAll0 ps = true ∧ PyData.depthAll ps ≤ n
theorem strOk_of {l : List Nat} (h : ∀ c ∈ l, c < 1114112) : PyData.strOk (S l) = true := by
  show (l.toArray).all _ = true
  simpa using h
theorem Pl.str (n : Nat) {x : Str} (h : PyData.strOk x = true) : Pl n (.str x) := ⟨.str x, rfl, by simp [PyData.canLay0, h], by simp [PyData.depth]⟩
theorem Pl.int (n : Nat) (i : Int) : Pl n (.int i) := ⟨.int i, rfl, by simp [PyData.canLay0], by simp [PyData.depth]⟩
theorem Pl.bl (n : Nat) (b : Bool) : Pl n (.bl b) := ⟨.bool b, rfl, by simp [PyData.canLay0], by simp [PyData.depth]⟩
theorem Pl.non (n : Nat) : Pl n .non := ⟨.none, rfl, by simp [PyData.canLay0], by simp [PyData.depth]⟩
theorem Pls.nil (n : Nat) : Pls n [] := ⟨[], rfl, by simp [PyData.canLayAll0], by simp [PyData.depthAll]⟩
theorem Pls.cons {n : Nat} {d : D} {ds : List D} (h : Pl n d) (k : Pls n ds) : Pls n (d :: ds) := by
  obtain ⟨p, h1, h2, h3⟩ := h
  obtain ⟨ps, k1, k2, k3⟩ := k
  refine ⟨p :: ps, ?_, ?_, ?_⟩
  · show (match toP d, toPs ds with | some p, some ps => some (p :: ps) | _, _ => none) = _
    rw [h1, k1]
  · simp [PyData.canLayAll0, h2, k2]
  · simp only [PyData.depthAll]; omega
theorem Pls.map {α : Type} {n : Nat} {f : α → D} : ∀ {l : List α}, (∀ a ∈ l, Pl n (f a)) → Pls n (l.map f)
  | [], _ => Pls.nil n
  | a :: l, h => Pls.cons (h a List.mem_cons_self) (Pls.map fun b hb => h b (List.mem_cons_of_mem _ hb))
theorem Pl.tup {n : Nat} {ds : List D} (k : Pls n ds) : Pl (n + 1) (.tup ds) := by
  obtain ⟨ps, k1, k2, k3⟩ := k
  exact ⟨.tuple ps, toP_tup k1, by rw [PyData.canLay0]; exact k2, by rw [PyData.depth]; omega⟩
theorem Pl.lst {n : Nat} {ds : List D} (k : Pls n ds) : Pl (n + 1) (.lst ds) := by
  obtain ⟨ps, k1, k2, k3⟩ := k
  exact ⟨.list ps, toP_lst k1, by rw [PyData.canLay0]; exact k2, by rw [PyData.depth]; omega⟩
theorem Pl.mono {n m : Nat} {d : D} (h : Pl n d) (e : n ≤ m) : Pl m d := by
  obtain ⟨p, h1, h2, h3⟩ := h
  exact ⟨p, h1, h2, by omega⟩
theorem eqS_self {f : Bool → Bool} {x : D} {u : V} (h : scalD x = some u) (hs : scal u u = true) : eqS f x x = some (.bl (f true)) := by
  unfold eqS
  rw [h]
  show (if scal u u = true then some (D.bl (f (decide (u = u)))) else none) = _
  rw [if_pos hs, decide_eq_true rfl]
theorem eqP_self {f : Bool → Bool} {n : Nat} {x : D} (h : Pl n x) (hn : n ≤ 64) : eqP f x x = some (.bl (f true)) := by
  obtain ⟨p, h1, h2, h3⟩ := h
  have hs : SeqAt.shaped p = true := by
    unfold SeqAt.shaped
    rw [h2, decide_eq_true (by omega)]
    rfl
  rw [eqP_of h1 h1 hs hs, SeqAt.eqv_refl p h2]
/-- a plain thing is what it is -/
theorem eq_self {n : Nat} {x : D} (h : Pl n x) (hn : n ≤ 64) : eqD x x = some (.bl true) ∧ neD x x = some (.bl false) := by
  constructor
  · show (match eqS id x x with | some d => some d | none => eqP id x x) = _
    cases z : eqS id x x with
    | none => exact eqP_self h hn
    | some d =>
      unfold eqS at z
      cases y : scalD x with
      | none => rw [y] at z; cases z
      | some u =>
        rw [y] at z
        have z : (if scal u u = true then some (D.bl (id (decide (u = u)))) else none) = some d := z
        split at z
        · cases z; rw [decide_eq_true rfl]; rfl
        · cases z
  · show (match eqS not x x with | some d => some d | none => eqP not x x) = _
    cases z : eqS not x x with
    | none => exact eqP_self h hn
    | some d =>
      unfold eqS at z
      cases y : scalD x with
      | none => rw [y] at z; cases z
      | some u =>
        rw [y] at z
        have z : (if scal u u = true then some (D.bl (not (decide (u = u)))) else none) = some d := z
        split at z
        · cases z; rw [decide_eq_true rfl]; rfl
        · cases z
/-- a list against the empty one -/
theorem ne_nil {n : Nat} {xs : List D} (h : Pls n xs) (hn : n ≤ 63) : eqD (.lst xs) (.lst []) = some (.bl xs.isEmpty) ∧ neD (.lst xs) (.lst []) = some (.bl (!xs.isEmpty)) := by
  obtain ⟨ps, h1, h2, h3⟩ := h
  have e := eq_nil h1 h2 (by omega)
  have he : ps.isEmpty = xs.isEmpty := by
    cases xs with
    | nil => cases h1; rfl
    | cons x xs =>
      have h1 : (match toP x, toPs xs with | some p, some ps => some (p :: ps) | _, _ => none) = some ps := h1
      split at h1
      · cases h1; rfl
      · cases h1
  rw [he] at e
  exact e
/-! ### tuples of texts -/
def sT (m : List Str) : D := .tup (m.map D.str)
theorem toPs_str (m : List Str) : toPs (m.map D.str) = some (m.map PyData.str) := by
  induction m with
  | nil => rfl
  | cons a m ih =>
    show (match toP (.str a), toPs (m.map D.str) with | some p, some ps => some (p :: ps) | _, _ => none) = _
    rw [ih]; rfl
theorem lay_str {m : List Str} (h : ∀ x ∈ m, PyData.strOk x = true) : PyData.canLayAll0 (m.map PyData.str) = true ∧ PyData.depthAll (m.map PyData.str) = 0 := by
  induction m with
  | nil => exact ⟨by simp [PyData.canLayAll0], by simp [PyData.depthAll]⟩
  | cons a m ih =>
    have i := ih fun x hx => h x (List.mem_cons_of_mem _ hx)
    exact ⟨by simp [PyData.canLayAll0, PyData.canLay0, i.1, h a List.mem_cons_self], by simp [PyData.depthAll, PyData.depth, i.2]⟩
theorem eqv_strs : ∀ a b : List Str, PyData.eqvAll (a.map PyData.str) (b.map PyData.str) = decide (a = b)
  | [], [] => by simp [PyData.eqvAll]
  | [], _ :: _ => by simp [PyData.eqvAll]
  | _ :: _, [] => by simp [PyData.eqvAll]
  | x :: a, y :: b => by
    rw [List.map_cons, List.map_cons, PyData.eqvAll, eqv_strs a b]
    have e : PyData.eqv (.str x) (.str y) = decide (x = y) := by
      rw [PyData.eqv]
      by_cases h : x = y
      · subst h; simp
      · rw [decide_eq_false h]; simpa using h
    rw [e]
    by_cases h1 : x = y <;> by_cases h2 : a = b <;> simp [h1, h2]
theorem ne_strs {a b : List Str} (ha : ∀ x ∈ a, PyData.strOk x = true) (hb : ∀ x ∈ b, PyData.strOk x = true) : neD (.tup (a.map D.str)) (.tup (b.map D.str)) = some (.bl (!decide (a = b))) ∧ neD (.lst (a.map D.str)) (.lst (b.map D.str)) = some (.bl (!decide (a = b))) := by
  obtain ⟨a1, a2⟩ := lay_str ha
  obtain ⟨b1, b2⟩ := lay_str hb
  constructor
  · refine orO_r rfl ((eqP_of (toP_tup (toPs_str a)) (toP_tup (toPs_str b)) (shaped_tup a1 (by rw [a2]; decide)) (shaped_tup b1 (by rw [b2]; decide))).trans ?_)
    have : PyData.eqv (.tuple (a.map PyData.str)) (.tuple (b.map PyData.str)) = decide (a = b) := by rw [PyData.eqv]; exact eqv_strs a b
    rw [this]
  · refine orO_r rfl ((eqP_of (toP_lst (toPs_str a)) (toP_lst (toPs_str b)) (shaped_list a1 (by rw [a2]; decide)) (shaped_list b1 (by rw [b2]; decide))).trans ?_)
    have : PyData.eqv (.list (a.map PyData.str)) (.list (b.map PyData.str)) = decide (a = b) := by rw [PyData.eqv]; exact eqv_strs a b
    rw [this]
end Mir

set_option Elab.async false
set_option linter.all false
set_option maxRecDepth 100000
set_option maxHeartbeats 1000000
/-! Mir, part Sw: wp of x or y. -/
namespace Mir
open PySem SX L2
def onTx (d : D) (n y : Prop) : Prop := match d with
  | .non => n
  | .str t => small t.length = true ∧ (if ((t.length : Int) != 0) = true then y else n)
  | _ => False
theorem onTx_non {n y : Prop} : onTx .non n y = n := rfl
theorem onTx_nil {n y : Prop} : onTx (.str "") n y = n := propext ⟨fun h => h.2, fun h => ⟨rfl, h⟩⟩
theorem onTx_str {t : Str} {n y : Prop} (hz : small t.length = true) (hn : t.length ≠ 0) : onTx (.str t) n y = y := by
  have : ((t.length : Int) != 0) = true := by simp_all
  unfold onTx
  simp only [this, hz, if_true, true_and]
section
variable {X : XP} {τ : Ev} {s : Sto} {a b : ED} {Q : D → Sto → Prop}
theorem wp_eOrS : wp (eOrS a b τ s) Q X = wp (a τ s) (fun d s => onTx d (wp (b τ s) Q X) (Q d s)) X := by
  unfold eOrS; rw [wp_bind]; refine wp_cg fun d s => ?_
  cases d <;> first
    | exact propext ⟨fun h => h.elim, fun h => h.elim⟩
    | rfl
    | skip
  rename_i t
  unfold onTx
  show wp ((if small t.length = true then (if ((t.length : Int) != 0) = true then (M.ret (.str t) : M D) else b τ) else fun _ => .no) s) Q X = (small t.length = true ∧ (if ((t.length : Int) != 0) = true then Q (.str t) s else wp (b τ s) Q X))
  by_cases hz : small t.length = true
  · simp only [hz, if_true, true_and]
    cases z : ((t.length : Int) != 0) <;> rfl
  · simp only [hz]
    exact propext ⟨fun h => h.elim, fun h => absurd h.1 (by simp)⟩
end
end Mir

set_option Elab.async false
set_option linter.all false
set_option maxRecDepth 100000
set_option maxHeartbeats 4000000
/-! Mir, part Hd: the head's facts by a Hook that looks at told addresses alone (less memory in the kernel). -/
namespace Mir
open PySem PySem.Spec PyProof.Rows L2
section
variable {as : List Addr} {fa : List He.Fa} {fn : List He.DefD} {ts : List He.Tab} {tf : List He.Defn} {ex : PySem.W.Frag → Bool}
def obsY (as : List Addr) (fa : List He.Fa) (fn : List He.DefD) (ts : List He.Tab) (tf : List He.Defn) (ex : PySem.W.Frag → Bool) (g : Addr → Option Obj) : He.AlX :=
  (He.obsT fa fn ts (He.frT g as), ex (He.frT g as) && He.tabsB g tf (He.frT g as))
theorem saysY {w : World} {h : Heap} (e : obsY as fa fn ts tf ex h.get? = He.valX fn ts w) : He.SaysX fa fn ts tf ex w h (He.frT h.get? as) := by
  have q1 := congrArg Prod.fst e
  have q2 := Bool.and_eq_true_iff.mp (congrArg Prod.snd e)
  have q3 := fun p hp => Bool.and_eq_true_iff.mp (List.all_eq_true.mp q2.2 p hp)
  have q4 : ∀ p ∈ tf, ∃ o, h.get? (He.cT (He.frT h.get? as) p).2 = some o ∧ He.emptyTab o = true := fun p hp => by
    have z := (q3 p hp).2
    split at z
    · rename_i o hq; exact ⟨o, hq, z⟩
    · cases z
  refine ⟨q1, q2.1, fun p hp => (q3 p hp).1, fun p hp => ?_, fun p hp => ?_⟩ <;> obtain ⟨o, z1, z2⟩ := q4 p hp
  · exact He.frT_none z1 z2
  · rw [z1, He.emptyTab_eq z2]
def hookY (as : List Addr) (fa : List He.Fa) (fn : List He.DefD) (ts : List He.Tab) (tf : List He.Defn) (ex : PySem.W.Frag → Bool) : PySem.W.Hook where
  α := He.AlX
  obs s := obsY as fa fn ts tf ex s.heap.get?
  val w := He.valX fn ts w
  says w h := ∃ K : PySem.W.Frag, K.In h ∧ He.SaysX fa fn ts tf ex w h K
  of _ _ e := ⟨_, He.frT_in, saysY e⟩
  keeps _ _ _ a k := by
    obtain ⟨K, hK, c⟩ := a
    exact ⟨K, hK.keeps k, c.t, c.more, c.hd, c.out, fun p hp => k _ _ (c.empty p hp)⟩
theorem obsY_eq {g : Addr → Option Obj} {s : Shared} (h : ∀ a, g a = s.heap.get? a) : obsY as fa fn ts tf ex g = (hookY as fa fn ts tf ex).obs s := by
  rw [show g = s.heap.get? from funext h]
  rfl
theorem joinR {α β γ δ : Type} {E : Option α} {f : α → β} {f' : α → γ} {g : α → δ} {b : β} {c : γ} {d : δ} (h1 : E.map (fun s => (f s, f' s)) = some (b, c)) (h2 : E.map g = some d) : E.map (fun s => (f s, f' s, g s)) = some (b, c, d) := by
  cases E with
  | none => cases h1
  | some s =>
    have e1 : (f s, f' s) = (b, c) := Option.some.inj h1
    have e2 : g s = d := Option.some.inj h2
    injection e1 with e1 e3
    show some (f s, f' s, g s) = _
    rw [e1, e2, e3]
end
end Mir
namespace K95
open PySem PySem.Spec PyProof.Rows L2 Mir
def topS (i : Nat) : Stmt := PySem.Challenge.pw_lettershelf_k95_watches_refused.main.body.getD i (.Pass ⟨0, 0, 0, 0⟩)
def errs : List Str := ["BadLetter", "BadSet", "BadBox", "BadMarks", "BadNumber", "BadPlace", "Gone", "BadQuery", "BadText"]
def tb_LENGTHS : List (Str × Int) := [("all", 1), ("mark", 2), ("head", 3), ("body", 2), ("numbers", 2), ("newer", 2), ("not", 2), ("or", 3), ("and", 3)]
structure Fx (K : PySem.W.Frag) (w : World) (mg : Str → Option Value) : Prop where
  f__law_drawn : ∃ fd, FunD K "_law_drawn" "_law_drawn" (defArgs (topS 75)) (defBody (topS 75)) (defScope (topS 75)) [] [] (He.ga K "_law_drawn") fd
  g__law_drawn : mg "_law_drawn" = some (.ref (He.ga K "_law_drawn"))
  fl_stamp : FldF K ["Box", "Watch"] "stamp"
  fl_coming : FldF K ["Box"] "coming"
  fl_step : FldF K ["Box"] "step"
  fl_entries : FldF K ["Box"] "entries"
  fl_gone : FldF K ["Box"] "gone"
  f_Box___init__ : ∃ fd, FunD K "__init__" "Box.__init__" (defArgs (inClass (topS 42) 0)) (defBody (inClass (topS 42) 0)) (defScope (inClass (topS 42) 0)) [] [] (He.ma K (He.ga K "Box") "__init__") fd
  g_Box : mg "Box" = some (.ref (He.ga K "Box"))
  k_Box : Mk K (He.ga K "Box") (He.ma K (He.ga K "Box") "__init__")
  fl_stamped : FldF K ["Shelf"] "stamped"
  fl_kept : FldF K ["Shelf"] "kept"
  f_Shelf___init__ : ∃ fd, FunD K "__init__" "Shelf.__init__" (defArgs (inClass (topS 70) 0)) (defBody (inClass (topS 70) 0)) (defScope (inClass (topS 70) 0)) [] [] (He.ma K (He.ga K "Shelf") "__init__") fd
  g_Shelf : mg "Shelf" = some (.ref (He.ga K "Shelf"))
  k_Shelf : Mk K (He.ga K "Shelf") (He.ma K (He.ga K "Shelf") "__init__")
  e_BadBox : ExcF K mg "BadBox"
  f_need_shelves : ∃ fd, FunD K "need" "need" (defArgs (topS 68)) (defBody (topS 68)) (defScope (topS 68)) [] [] (He.ga K "need_shelves") fd
  g_need_shelves : mg "need_shelves" = some (.ref (He.ga K "need_shelves"))
  f_Shelf_box : ∃ fd, FunD K "box" "Shelf.box" (defArgs (inClass (topS 70) 1)) (defBody (inClass (topS 70) 1)) (defScope (inClass (topS 70) 1)) [] [] (He.ma K (He.ga K "Shelf") "box") fd
  c_Shelf : Cls K (He.ga K "Shelf")
  m_Shelf_box : Meth K (He.ga K "Shelf") "box" (He.ma K (He.ga K "Shelf") "box")
  f_head : ∃ fd, FunD K "head" "head" (defArgs (topS 25)) (defBody (topS 25)) (defScope (topS 25)) [] [] (He.ga K "head") fd
  g_head : mg "head" = some (.ref (He.ga K "head"))
  e_BadLetter : ExcF K mg "BadLetter"
  f_need_letters : ∃ fd, FunD K "need" "need" (defArgs (topS 19)) (defBody (topS 19)) (defScope (topS 19)) [] [] (He.ga K "need_letters") fd
  g_need_letters : mg "need_letters" = some (.ref (He.ga K "need_letters"))
  s_SMALL : ∃ t, mg "SMALL" = some (.str "abcdefghijklmnopqrstuvwxyz" t)
  z_all : mg "all" = none
  z_len : mg "len" = none
  z_isinstance : mg "isinstance" = none
  z_str : mg "str" = none
  f_is_word : ∃ fd, FunD K "is_word" "is_word" (defArgs (topS 22)) (defBody (topS 22)) (defScope (topS 22)) [] [] (He.ga K "is_word") fd
  g_is_word : mg "is_word" = some (.ref (He.ga K "is_word"))
  z_ord : mg "ord" = none
  i_BARRED : ∃ t, mg "BARRED" = some (.int 37 t)
  f_are_signs : ∃ fd, FunD K "are_signs" "are_signs" (defArgs (topS 21)) (defBody (topS 21)) (defScope (topS 21)) [] [] (He.ga K "are_signs") fd
  g_are_signs : mg "are_signs" = some (.ref (He.ga K "are_signs"))
  i_MOST_NAME : ∃ t, mg "MOST_NAME" = some (.int 12 t)
  z_tuple : mg "tuple" = none
  i_MOST_HEAD : ∃ t, mg "MOST_HEAD" = some (.int 80 t)
  f_need_head : ∃ fd, FunD K "need_head" "need_head" (defArgs (topS 23)) (defBody (topS 23)) (defScope (topS 23)) [] [] (He.ga K "need_head") fd
  g_need_head : mg "need_head" = some (.ref (He.ga K "need_head"))
  i_MOST_BODY : ∃ t, mg "MOST_BODY" = some (.int 300 t)
  i_MOST_HEADS : ∃ t, mg "MOST_HEADS" = some (.int 8 t)
  f_need_letter : ∃ fd, FunD K "need_letter" "need_letter" (defArgs (topS 24)) (defBody (topS 24)) (defScope (topS 24)) [] [] (He.ga K "need_letter") fd
  g_need_letter : mg "need_letter" = some (.ref (He.ga K "need_letter"))
  i_MOST_NUMBER : ∃ t, mg "MOST_NUMBER" = some (.int 9999 t)
  f_Box_need_room : ∃ fd, FunD K "need_room" "Box.need_room" (defArgs (inClass (topS 42) 3)) (defBody (inClass (topS 42) 3)) (defScope (inClass (topS 42) 3)) [] [] (He.ma K (He.ga K "Box") "need_room") fd
  c_Box : Cls K (He.ga K "Box")
  m_Box_need_room : Meth K (He.ga K "Box") "need_room" (He.ma K (He.ga K "Box") "need_room")
  fl_letter : FldF K ["Entry", "Facts"] "letter"
  fl_marks : FldF K ["Entry", "Facts"] "marks"
  fl_came : FldF K ["Entry"] "came"
  fl_changed : FldF K ["Entry", "Facts"] "changed"
  f_Entry___init__ : ∃ fd, FunD K "__init__" "Entry.__init__" (defArgs (inClass (topS 41) 0)) (defBody (inClass (topS 41) 0)) (defScope (inClass (topS 41) 0)) [] [] (He.ma K (He.ga K "Entry") "__init__") fd
  g_Entry : mg "Entry" = some (.ref (He.ga K "Entry"))
  k_Entry : Mk K (He.ga K "Entry") (He.ma K (He.ga K "Entry") "__init__")
  z_int : mg "int" = none
  f_Box_add_all : ∃ fd, FunD K "add_all" "Box.add_all" (defArgs (inClass (topS 42) 4)) (defBody (inClass (topS 42) 4)) (defScope (inClass (topS 42) 4)) [] [] (He.ma K (He.ga K "Box") "add_all") fd
  m_Box_add_all : Meth K (He.ga K "Box") "add_all" (He.ma K (He.ga K "Box") "add_all")
  e_BadMarks : ExcF K mg "BadMarks"
  f_need_marks : ∃ fd, FunD K "need_marks" "need_marks" (defArgs (topS 38)) (defBody (topS 38)) (defScope (topS 38)) [] [] (He.ga K "need_marks") fd
  g_need_marks : mg "need_marks" = some (.ref (He.ga K "need_marks"))
  i_MOST_MARK : ∃ t, mg "MOST_MARK" = some (.int 10 t)
  z_set : mg "set" = none
  i_MOST_MARKS : ∃ t, mg "MOST_MARKS" = some (.int 6 t)
  z_sorted : mg "sorted" = none
  f_marks_tuple : ∃ fd, FunD K "marks_tuple" "marks_tuple" (defArgs (topS 39)) (defBody (topS 39)) (defScope (topS 39)) [] [] (He.ga K "marks_tuple") fd
  g_marks_tuple : mg "marks_tuple" = some (.ref (He.ga K "marks_tuple"))
  f_Shelf_put : ∃ fd, FunD K "put" "Shelf.put" (defArgs (inClass (topS 70) 8)) (defBody (inClass (topS 70) 8)) (defScope (inClass (topS 70) 8)) [] [] (He.ma K (He.ga K "Shelf") "put") fd
  m_Shelf_put : Meth K (He.ga K "Shelf") "put" (He.ma K (He.ga K "Shelf") "put")
  f_Shelf_numbers : ∃ fd, FunD K "numbers" "Shelf.numbers" (defArgs (inClass (topS 70) 9)) (defBody (inClass (topS 70) 9)) (defScope (inClass (topS 70) 9)) [] [] (He.ma K (He.ga K "Shelf") "numbers") fd
  m_Shelf_numbers : Meth K (He.ga K "Shelf") "numbers" (He.ma K (He.ga K "Shelf") "numbers")
  f__law_cell : ∃ fd, FunD K "_law_cell" "_law_cell" (defArgs (topS 74)) (defBody (topS 74)) (defScope (topS 74)) [] [] (He.ga K "_law_cell") fd
  g__law_cell : mg "_law_cell" = some (.ref (He.ga K "_law_cell"))
  g_BadMarks : mg "BadMarks" = some (.ref (He.ga K "BadMarks"))
  g_BadBox : mg "BadBox" = some (.ref (He.ga K "BadBox"))
  g_BadSet : mg "BadSet" = some (.ref (He.ga K "BadSet"))
  g_BadLetter : mg "BadLetter" = some (.ref (He.ga K "BadLetter"))
  g_BadQuery : mg "BadQuery" = some (.ref (He.ga K "BadQuery"))
  g_Gone : mg "Gone" = some (.ref (He.ga K "Gone"))
  g_BadPlace : mg "BadPlace" = some (.ref (He.ga K "BadPlace"))
  g_BadNumber : mg "BadNumber" = some (.ref (He.ga K "BadNumber"))
  g_BadText : mg "BadText" = some (.ref (He.ga K "BadText"))
  z_ValueError : mg "ValueError" = none
  z_sum : mg "sum" = none
  g__law_word : mg "_law_word" = some (.ref (He.ga K "_law_word"))
  f__law_word : ∃ fd, FunD K "_law_word" "_law_word" (defArgs (topS 76)) (defBody (topS 76)) (defScope (topS 76)) [] [] (He.ga K "_law_word") fd
  wf : WordF K errs
  g__law_told : mg "_law_told" = some (.ref (He.ga K "_law_told"))
  f__law_told : ∃ fd, FunD K "_law_told" "_law_told" (defArgs (topS 77)) (defBody (topS 77)) (defScope (topS 77)) [] [] (He.ga K "_law_told") fd
  g_ShelfError : mg "ShelfError" = some (.ref (He.ga K "ShelfError"))
  x_ShelfError : ∀ cl ∈ errs, PySem.W.exmOne K (clsV K cl) (.ref (He.ga K "ShelfError")) = some true
  e_BadQuery : ExcF K mg "BadQuery"
  f_need_queries2 : ∃ fd, FunD K "need" "need" (defArgs (topS 47)) (defBody (topS 47)) (defScope (topS 47)) [] [] (He.ga K "need_queries2") fd
  g_need_queries2 : mg "need_queries2" = some (.ref (He.ga K "need_queries2"))
  i_MOST_TEXT : ∃ t, mg "MOST_TEXT" = some (.int 20 t)
  f_is_text : ∃ fd, FunD K "is_text" "is_text" (defArgs (topS 49)) (defBody (topS 49)) (defScope (topS 49)) [] [] (He.ga K "is_text") fd
  g_is_text : mg "is_text" = some (.ref (He.ga K "is_text"))
  e_BadSet : ExcF K mg "BadSet"
  f_need_sets : ∃ fd, FunD K "need" "need" (defArgs (topS 30)) (defBody (topS 30)) (defScope (topS 30)) [] [] (He.ga K "need_sets") fd
  g_need_sets : mg "need_sets" = some (.ref (He.ga K "need_sets"))
  s_FIGURES : ∃ t, mg "FIGURES" = some (.str "0123456789" t)
  i_MOST_FIGURES : ∃ t, mg "MOST_FIGURES" = some (.int 4 t)
  f_number_of : ∃ fd, FunD K "number_of" "number_of" (defArgs (topS 32)) (defBody (topS 32)) (defScope (topS 32)) [] [] (He.ga K "number_of") fd
  g_number_of : mg "number_of" = some (.ref (He.ga K "number_of"))
  z_max : mg "max" = none
  z_min : mg "min" = none
  f_ends_of : ∃ fd, FunD K "ends_of" "ends_of" (defArgs (topS 33)) (defBody (topS 33)) (defScope (topS 33)) [] [] (He.ga K "ends_of") fd
  g_ends_of : mg "ends_of" = some (.ref (He.ga K "ends_of"))
  z_range : mg "range" = none
  f_set_of : ∃ fd, FunD K "set_of" "set_of" (defArgs (topS 34)) (defBody (topS 34)) (defScope (topS 34)) [] [] (He.ga K "set_of") fd
  g_set_of : mg "set_of" = some (.ref (He.ga K "set_of"))
  xm_BadSet : PySem.W.exmOne K (clsV K "BadSet") (.ref (He.ga K "BadSet")) = some true
  f_is_set : ∃ fd, FunD K "is_set" "is_set" (defArgs (topS 50)) (defBody (topS 50)) (defScope (topS 50)) [] [] (He.ga K "is_set") fd
  g_is_set : mg "is_set" = some (.ref (He.ga K "is_set"))
  z_bool : mg "bool" = none
  f_is_step : ∃ fd, FunD K "is_step" "is_step" (defArgs (topS 51)) (defBody (topS 51)) (defScope (topS 51)) [] [] (He.ga K "is_step") fd
  g_is_step : mg "is_step" = some (.ref (He.ga K "is_step"))
  t_LENGTHS : TabF K w mg "LENGTHS" tb_LENGTHS
  i_MOST_WITHIN : ∃ t, mg "MOST_WITHIN" = some (.int 8 t)
  f_need_deep : ∃ fd, FunD K "need_deep" "need_deep" (defArgs (topS 52)) (defBody (topS 52)) (defScope (topS 52)) [] [] (He.ga K "need_deep") fd
  g_need_deep : mg "need_deep" = some (.ref (He.ga K "need_deep"))
  f_need_query : ∃ fd, FunD K "need_query" "need_query" (defArgs (topS 53)) (defBody (topS 53)) (defScope (topS 53)) [] [] (He.ga K "need_query") fd
  g_need_query : mg "need_query" = some (.ref (He.ga K "need_query"))
  i_MOST_PILES : ∃ t, mg "MOST_PILES" = some (.int 12 t)
  z_list : mg "list" = none
  f_need_queries : ∃ fd, FunD K "need_queries" "need_queries" (defArgs (topS 60)) (defBody (topS 60)) (defScope (topS 60)) [] [] (He.ga K "need_queries") fd
  g_need_queries : mg "need_queries" = some (.ref (He.ga K "need_queries"))
  z_any : mg "any" = none
  fl_number : FldF K ["Facts"] "number"
  fl_last : FldF K ["Facts"] "last"
  f_is_so : ∃ fd, FunD K "is_so" "is_so" (defArgs (topS 55)) (defBody (topS 55)) (defScope (topS 55)) [] [] (He.ga K "is_so") fd
  g_is_so : mg "is_so" = some (.ref (He.ga K "is_so"))
  f_Facts___init__ : ∃ fd, FunD K "__init__" "Facts.__init__" (defArgs (inClass (topS 54) 0)) (defBody (inClass (topS 54) 0)) (defScope (inClass (topS 54) 0)) [] [] (He.ma K (He.ga K "Facts") "__init__") fd
  g_Facts : mg "Facts" = some (.ref (He.ga K "Facts"))
  k_Facts : Mk K (He.ga K "Facts") (He.ma K (He.ga K "Facts") "__init__")
  f_asked : ∃ fd, FunD K "asked" "asked" (defArgs (topS 56)) (defBody (topS 56)) (defScope (topS 56)) [] [] (He.ga K "asked") fd
  g_asked : mg "asked" = some (.ref (He.ga K "asked"))
  f_piles : ∃ fd, FunD K "piles" "piles" (defArgs (topS 61)) (defBody (topS 61)) (defScope (topS 61)) [] [] (He.ga K "piles") fd
  g_piles : mg "piles" = some (.ref (He.ga K "piles"))
  f__law_small_letter : ∃ fd, FunD K "_law_small_letter" "_law_small_letter" (defArgs (topS 78)) (defBody (topS 78)) (defScope (topS 78)) [] [] (He.ga K "_law_small_letter") fd
  g__law_small_letter : mg "_law_small_letter" = some (.ref (He.ga K "_law_small_letter"))
  f__law_some_marks : ∃ fd, FunD K "_law_some_marks" "_law_some_marks" (defArgs (topS 79)) (defBody (topS 79)) (defScope (topS 79)) [] [] (He.ga K "_law_some_marks") fd
  g__law_some_marks : mg "_law_some_marks" = some (.ref (He.ga K "_law_some_marks"))
  e_BadNumber : ExcF K mg "BadNumber"
  f_Box_entry : ∃ fd, FunD K "entry" "Box.entry" (defArgs (inClass (topS 42) 1)) (defBody (inClass (topS 42) 1)) (defScope (inClass (topS 42) 1)) [] [] (He.ma K (He.ga K "Box") "entry") fd
  m_Box_entry : Meth K (He.ga K "Box") "entry" (He.ma K (He.ga K "Box") "entry")
  f_Shelf_letter_at : ∃ fd, FunD K "letter_at" "Shelf.letter_at" (defArgs (inClass (topS 70) 10)) (defBody (inClass (topS 70) 10)) (defScope (inClass (topS 70) 10)) [] [] (He.ma K (He.ga K "Shelf") "letter_at") fd
  m_Shelf_letter_at : Meth K (He.ga K "Shelf") "letter_at" (He.ma K (He.ga K "Shelf") "letter_at")
  f_Shelf_marks_of : ∃ fd, FunD K "marks_of" "Shelf.marks_of" (defArgs (inClass (topS 70) 11)) (defBody (inClass (topS 70) 11)) (defScope (inClass (topS 70) 11)) [] [] (He.ma K (He.ga K "Shelf") "marks_of") fd
  m_Shelf_marks_of : Meth K (He.ga K "Shelf") "marks_of" (He.ma K (He.ga K "Shelf") "marks_of")
  f_worth : ∃ fd, FunD K "worth" "worth" (defArgs (topS 64)) (defBody (topS 64)) (defScope (topS 64)) [] [] (He.ga K "worth") fd
  g_worth : mg "worth" = some (.ref (He.ga K "worth"))
  f_is_key : ∃ fd, FunD K "is_key" "is_key" (defArgs (topS 63)) (defBody (topS 63)) (defScope (topS 63)) [] [] (He.ga K "is_key") fd
  g_is_key : mg "is_key" = some (.ref (He.ga K "is_key"))
  i_MOST_KEYS : ∃ t, mg "MOST_KEYS" = some (.int 4 t)
  f_ordered : ∃ fd, FunD K "ordered" "ordered" (defArgs (topS 65)) (defBody (topS 65)) (defScope (topS 65)) [] [] (He.ga K "ordered") fd
  g_ordered : mg "ordered" = some (.ref (He.ga K "ordered"))
  fl_shelf : FldF K ["Watch"] "shelf"
  fl_wanted : FldF K ["Watch"] "wanted"
  fl_known : FldF K ["Watch"] "known"
  f_Watch___init__ : ∃ fd, FunD K "__init__" "Watch.__init__" (defArgs (inClass (topS 72) 0)) (defBody (inClass (topS 72) 0)) (defScope (inClass (topS 72) 0)) [] [] (He.ma K (He.ga K "Watch") "__init__") fd
  g_Watch : mg "Watch" = some (.ref (He.ga K "Watch"))
  k_Watch : Mk K (He.ga K "Watch") (He.ma K (He.ga K "Watch") "__init__")
  f_tally : ∃ fd, FunD K "tally" "tally" (defArgs (topS 62)) (defBody (topS 62)) (defScope (topS 62)) [] [] (He.ga K "tally") fd
  g_tally : mg "tally" = some (.ref (He.ga K "tally"))
  f_law : ∃ fd, FunD K "law" "law" (defArgs (topS 80)) (defBody (topS 80)) (defScope (topS 80)) [] [] (He.ga K "law") fd
  g_law : mg "law" = some (.ref (He.ga K "law"))
def lawT (K : PySem.W.Frag) : List (Addr × Str) := [((He.cT K ("law", none)).2, (envOfC "law" (defScope (topS 80)) 0 0 .none).qual ++ "<lambda>")]
structure TBs (K : PySem.W.Frag) (base : Heap) (mg : Str → Option Value) : Prop where
  nd : ((lawT K).map (·.1)).Nodup
  t_law : LamX.TabB base mg (He.cT K ("law", none)).1 (He.cT K ("law", none)).2
end K95

namespace K95
open PySem PySem.Spec PyProof.Rows L2 Mir
def fa0 : List He.Fa := [.glo "_law_drawn", .cls "Box", .cls "Watch", .noat "Box" "stamp", .noat "Watch" "stamp", .noat "Box" "coming", .noat "Box" "step", .noat "Box" "entries", .noat "Box" "gone", .glo "Box", .mkr "Box", .cls "Shelf", .noat "Shelf" "stamped", .noat "Shelf" "kept", .glo "Shelf", .mkr "Shelf"]
def fa1 : List He.Fa := [.glo "BadBox", .exc "BadBox", .glo "need_shelves", .meth "Shelf" "box", .glo "head", .glo "BadLetter", .exc "BadLetter", .glo "need_letters", .str "SMALL" "abcdefghijklmnopqrstuvwxyz", .free "all", .free "len", .free "isinstance", .free "str", .glo "is_word", .free "ord", .int "BARRED" 37]
def fa2 : List He.Fa := [.glo "are_signs", .int "MOST_NAME" 12, .free "tuple", .int "MOST_HEAD" 80, .glo "need_head", .int "MOST_BODY" 300, .int "MOST_HEADS" 8, .glo "need_letter", .int "MOST_NUMBER" 9999, .meth "Box" "need_room", .cls "Entry", .cls "Facts", .noat "Entry" "letter", .noat "Facts" "letter", .noat "Entry" "marks", .noat "Facts" "marks"]
def fa3 : List He.Fa := [.noat "Entry" "came", .noat "Entry" "changed", .noat "Facts" "changed", .glo "Entry", .mkr "Entry", .free "int", .meth "Box" "add_all", .glo "BadMarks", .exc "BadMarks", .glo "need_marks", .int "MOST_MARK" 10, .free "set", .int "MOST_MARKS" 6, .free "sorted", .glo "marks_tuple", .meth "Shelf" "put"]
def fa4 : List He.Fa := [.meth "Shelf" "numbers", .glo "_law_cell", .glo "BadSet", .glo "BadQuery", .glo "Gone", .glo "BadPlace", .glo "BadNumber", .glo "BadText", .free "ValueError", .free "sum", .glo "_law_word", .glo "_law_told", .glo "ShelfError", .exm "BadLetter" "ShelfError" true, .exm "BadSet" "ShelfError" true, .exm "BadBox" "ShelfError" true]
def fa5 : List He.Fa := [.exm "BadMarks" "ShelfError" true, .exm "BadNumber" "ShelfError" true, .exm "BadPlace" "ShelfError" true, .exm "Gone" "ShelfError" true, .exm "BadQuery" "ShelfError" true, .exm "BadText" "ShelfError" true, .exc "BadQuery", .glo "need_queries2", .int "MOST_TEXT" 20, .glo "is_text", .exc "BadSet", .glo "need_sets", .str "FIGURES" "0123456789", .int "MOST_FIGURES" 4, .glo "number_of", .free "max"]
def fa6 : List He.Fa := [.free "min", .glo "ends_of", .free "range", .glo "set_of", .exm "BadSet" "BadSet" true, .glo "is_set", .free "bool", .glo "is_step", .glo "LENGTHS", .int "MOST_WITHIN" 8, .glo "need_deep", .glo "need_query", .int "MOST_PILES" 12, .free "list", .glo "need_queries", .free "any"]
def fa7 : List He.Fa := [.noat "Facts" "number", .noat "Facts" "last", .glo "is_so", .glo "Facts", .mkr "Facts", .glo "asked", .glo "piles", .glo "_law_small_letter", .glo "_law_some_marks", .exc "BadNumber", .meth "Box" "entry", .meth "Shelf" "letter_at", .meth "Shelf" "marks_of", .glo "worth", .glo "is_key", .int "MOST_KEYS" 4]
def fa8 : List He.Fa := [.glo "ordered", .noat "Watch" "shelf", .noat "Watch" "wanted", .noat "Watch" "known", .glo "Watch", .mkr "Watch", .glo "tally", .glo "law"]
def fa : List He.Fa := fa0 ++ fa1 ++ fa2 ++ fa3 ++ fa4 ++ fa5 ++ fa6 ++ fa7 ++ fa8
def fn : List He.DefD := [⟨("_law_drawn", none), "_law_drawn", "_law_drawn", defArgs (topS 75), defBody (topS 75), defScope (topS 75), [], []⟩,
  ⟨("Box", some "__init__"), "__init__", "Box.__init__", defArgs (inClass (topS 42) 0), defBody (inClass (topS 42) 0), defScope (inClass (topS 42) 0), [], []⟩,
  ⟨("Shelf", some "__init__"), "__init__", "Shelf.__init__", defArgs (inClass (topS 70) 0), defBody (inClass (topS 70) 0), defScope (inClass (topS 70) 0), [], []⟩,
  ⟨("need_shelves", none), "need", "need", defArgs (topS 68), defBody (topS 68), defScope (topS 68), [], []⟩,
  ⟨("Shelf", some "box"), "box", "Shelf.box", defArgs (inClass (topS 70) 1), defBody (inClass (topS 70) 1), defScope (inClass (topS 70) 1), [], []⟩,
  ⟨("head", none), "head", "head", defArgs (topS 25), defBody (topS 25), defScope (topS 25), [], []⟩,
  ⟨("need_letters", none), "need", "need", defArgs (topS 19), defBody (topS 19), defScope (topS 19), [], []⟩,
  ⟨("is_word", none), "is_word", "is_word", defArgs (topS 22), defBody (topS 22), defScope (topS 22), [], []⟩,
  ⟨("are_signs", none), "are_signs", "are_signs", defArgs (topS 21), defBody (topS 21), defScope (topS 21), [], []⟩,
  ⟨("need_head", none), "need_head", "need_head", defArgs (topS 23), defBody (topS 23), defScope (topS 23), [], []⟩,
  ⟨("need_letter", none), "need_letter", "need_letter", defArgs (topS 24), defBody (topS 24), defScope (topS 24), [], []⟩,
  ⟨("Box", some "need_room"), "need_room", "Box.need_room", defArgs (inClass (topS 42) 3), defBody (inClass (topS 42) 3), defScope (inClass (topS 42) 3), [], []⟩,
  ⟨("Entry", some "__init__"), "__init__", "Entry.__init__", defArgs (inClass (topS 41) 0), defBody (inClass (topS 41) 0), defScope (inClass (topS 41) 0), [], []⟩,
  ⟨("Box", some "add_all"), "add_all", "Box.add_all", defArgs (inClass (topS 42) 4), defBody (inClass (topS 42) 4), defScope (inClass (topS 42) 4), [], []⟩,
  ⟨("need_marks", none), "need_marks", "need_marks", defArgs (topS 38), defBody (topS 38), defScope (topS 38), [], []⟩,
  ⟨("marks_tuple", none), "marks_tuple", "marks_tuple", defArgs (topS 39), defBody (topS 39), defScope (topS 39), [], []⟩,
  ⟨("Shelf", some "put"), "put", "Shelf.put", defArgs (inClass (topS 70) 8), defBody (inClass (topS 70) 8), defScope (inClass (topS 70) 8), [], []⟩,
  ⟨("Shelf", some "numbers"), "numbers", "Shelf.numbers", defArgs (inClass (topS 70) 9), defBody (inClass (topS 70) 9), defScope (inClass (topS 70) 9), [], []⟩,
  ⟨("_law_cell", none), "_law_cell", "_law_cell", defArgs (topS 74), defBody (topS 74), defScope (topS 74), [], []⟩,
  ⟨("_law_word", none), "_law_word", "_law_word", defArgs (topS 76), defBody (topS 76), defScope (topS 76), [], []⟩,
  ⟨("_law_told", none), "_law_told", "_law_told", defArgs (topS 77), defBody (topS 77), defScope (topS 77), [], []⟩,
  ⟨("need_queries2", none), "need", "need", defArgs (topS 47), defBody (topS 47), defScope (topS 47), [], []⟩,
  ⟨("is_text", none), "is_text", "is_text", defArgs (topS 49), defBody (topS 49), defScope (topS 49), [], []⟩,
  ⟨("need_sets", none), "need", "need", defArgs (topS 30), defBody (topS 30), defScope (topS 30), [], []⟩,
  ⟨("number_of", none), "number_of", "number_of", defArgs (topS 32), defBody (topS 32), defScope (topS 32), [], []⟩,
  ⟨("ends_of", none), "ends_of", "ends_of", defArgs (topS 33), defBody (topS 33), defScope (topS 33), [], []⟩,
  ⟨("set_of", none), "set_of", "set_of", defArgs (topS 34), defBody (topS 34), defScope (topS 34), [], []⟩,
  ⟨("is_set", none), "is_set", "is_set", defArgs (topS 50), defBody (topS 50), defScope (topS 50), [], []⟩,
  ⟨("is_step", none), "is_step", "is_step", defArgs (topS 51), defBody (topS 51), defScope (topS 51), [], []⟩,
  ⟨("need_deep", none), "need_deep", "need_deep", defArgs (topS 52), defBody (topS 52), defScope (topS 52), [], []⟩,
  ⟨("need_query", none), "need_query", "need_query", defArgs (topS 53), defBody (topS 53), defScope (topS 53), [], []⟩,
  ⟨("need_queries", none), "need_queries", "need_queries", defArgs (topS 60), defBody (topS 60), defScope (topS 60), [], []⟩,
  ⟨("is_so", none), "is_so", "is_so", defArgs (topS 55), defBody (topS 55), defScope (topS 55), [], []⟩,
  ⟨("Facts", some "__init__"), "__init__", "Facts.__init__", defArgs (inClass (topS 54) 0), defBody (inClass (topS 54) 0), defScope (inClass (topS 54) 0), [], []⟩,
  ⟨("asked", none), "asked", "asked", defArgs (topS 56), defBody (topS 56), defScope (topS 56), [], []⟩,
  ⟨("piles", none), "piles", "piles", defArgs (topS 61), defBody (topS 61), defScope (topS 61), [], []⟩,
  ⟨("_law_small_letter", none), "_law_small_letter", "_law_small_letter", defArgs (topS 78), defBody (topS 78), defScope (topS 78), [], []⟩,
  ⟨("_law_some_marks", none), "_law_some_marks", "_law_some_marks", defArgs (topS 79), defBody (topS 79), defScope (topS 79), [], []⟩,
  ⟨("Box", some "entry"), "entry", "Box.entry", defArgs (inClass (topS 42) 1), defBody (inClass (topS 42) 1), defScope (inClass (topS 42) 1), [], []⟩,
  ⟨("Shelf", some "letter_at"), "letter_at", "Shelf.letter_at", defArgs (inClass (topS 70) 10), defBody (inClass (topS 70) 10), defScope (inClass (topS 70) 10), [], []⟩,
  ⟨("Shelf", some "marks_of"), "marks_of", "Shelf.marks_of", defArgs (inClass (topS 70) 11), defBody (inClass (topS 70) 11), defScope (inClass (topS 70) 11), [], []⟩,
  ⟨("worth", none), "worth", "worth", defArgs (topS 64), defBody (topS 64), defScope (topS 64), [], []⟩,
  ⟨("is_key", none), "is_key", "is_key", defArgs (topS 63), defBody (topS 63), defScope (topS 63), [], []⟩,
  ⟨("ordered", none), "ordered", "ordered", defArgs (topS 65), defBody (topS 65), defScope (topS 65), [], []⟩,
  ⟨("Watch", some "__init__"), "__init__", "Watch.__init__", defArgs (inClass (topS 72) 0), defBody (inClass (topS 72) 0), defScope (inClass (topS 72) 0), [], []⟩,
  ⟨("tally", none), "tally", "tally", defArgs (topS 62), defBody (topS 62), defScope (topS 62), [], []⟩,
  ⟨("law", none), "law", "law", defArgs (topS 80), defBody (topS 80), defScope (topS 80), [], []⟩]
def tf : List He.Defn := [("law", none)]
def tsT : List He.Tab := [((fun K => He.ga K "LENGTHS"), tb_LENGTHS.map (·.1))]
def exB (K : PySem.W.Frag) : Bool := wordB errs K && (tabB "LENGTHS" tb_LENGTHS K && decide ((lawT K).map (·.1)).Nodup)
def nm0 : List PySem.Str := ["_wall", "__name__", "ShelfError", "BadLetter", "BadSet", "BadBox", "BadMarks", "BadNumber", "BadPlace", "Gone", "BadQuery", "BadText", "MOST_HEADS", "MOST_NAME", "MOST_HEAD", "MOST_BODY"]
def nm1 : List PySem.Str := ["SMALL", "BARRED", "need", "need_letters", "are_signs", "is_word", "need_head", "need_letter", "head", "MOST_NUMBER", "MOST_FIGURES", "FIGURES", "need_sets", "number_of", "ends_of", "set_of"]
def nm2 : List PySem.Str := ["MOST_MARKS", "MOST_MARK", "need_marks", "marks_tuple", "changed_marks", "Entry", "Box", "MOST_TEXT", "MOST_WITHIN", "LENGTHS", "need_queries2", "is_text", "is_set", "is_step", "need_deep", "need_query"]
def nm3 : List PySem.Str := ["Facts", "is_so", "asked", "MOST_PILES", "MOST_KEYS", "need_queries", "piles", "tally", "is_key", "worth", "ordered", "HOWS", "need_shelves", "Shelf", "Watch", "_law_cell"]
def nm4 : List PySem.Str := ["_law_drawn", "_law_word", "_law_told", "_law_small_letter", "_law_some_marks"]
abbrev nms : List PySem.Str := nm0 ++ nm1 ++ nm2 ++ nm3 ++ nm4
abbrev Rw : PySem.W.OpenRow := PySem.W.OpenLaw.row PySem.Challenge.rw_lettershelf_k95_watches_refused
def as0 : List Addr := [3, 6, 4, 21, 31, 44, 56, 68, 80, 92, 104, 116, 128, 140, 417, 149, 154, 159, 166, 171, 178, 185, 190, 195, 200, 207, 212, 217, 234, 293, 298, 305, 312, 319, 326, 333, 340, 357, 366, 373, 380, 385, 390, 397, 404, 409, 410, 546, 600, 611, 618, 623, 630, 637, 642, 649, 0, 20, 30, 43, 55, 67, 79, 91, 103, 115, 127, 139, 416, 148, 153, 158, 165, 170, 177, 184, 189, 194, 199, 206, 211, 216, 233, 292, 304, 311, 318, 325, 332, 339, 356, 365, 372, 379, 384, 389, 396, 403, 408, 545, 599, 610, 617, 622, 629, 636, 641, 648, 15, 16, 17, 18, 19, 29, 32, 42, 54, 66, 78, 90, 102, 114, 126, 138, 411, 412, 413, 414, 415, 143, 144, 145, 146, 147, 150, 151, 152, 155, 156, 157, 160, 161, 162, 163, 164, 167, 168, 169, 172, 173, 174, 175, 176, 179, 180, 181, 182, 183, 186, 187, 188, 191, 192, 193, 196, 197, 198, 201, 202, 203, 204, 205, 208, 209, 210, 213, 214, 215, 231, 232, 235, 236, 252, 259, 264, 271, 278, 283, 290, 291, 294, 295, 299, 300, 301, 302, 303, 306, 307, 308, 309, 310, 313, 314, 315, 316, 317, 320, 321, 322, 323, 324, 327, 328, 329, 330, 331, 334, 335, 336, 337, 338, 354, 355, 358, 359, 362, 363, 364, 367, 368, 369, 370, 371, 374, 375, 376, 377, 378, 381, 382, 383, 386, 387, 388, 391, 392, 393, 394, 395, 398, 399, 400, 401, 402, 405, 406, 407, 431, 438, 445, 452, 459, 466, 473, 480, 487, 494, 501, 508, 515, 522, 529, 536, 543, 544, 547, 548, 564, 571, 576, 583, 590, 597, 598, 601, 602, 605, 606, 607, 608, 609, 612, 613, 614, 615, 616, 619, 620, 621, 624, 625, 626, 627, 628, 631, 632, 633, 634, 635, 638, 639, 640, 643, 644, 645, 646, 647, 230, 251, 258, 263, 270, 277, 282, 289, 353, 430, 437, 444, 451, 458, 465, 472, 479, 486, 493, 500, 507, 514, 521, 528, 535, 542, 563, 570, 575, 582, 589, 596, 225, 226, 227, 228, 229, 246, 247, 248, 249, 250, 253, 254, 255, 256, 257, 260, 261, 262, 265, 266, 267, 268, 269, 272, 273, 274, 275, 276, 279, 280, 281, 284, 285, 286, 287, 288, 348, 349, 350, 351, 352, 425, 426, 427, 428, 429, 432, 433, 434, 435, 436, 439, 440, 441, 442, 443, 446, 447, 448, 449, 450, 453, 454, 455, 456, 457, 460, 461, 462, 463, 464, 467, 468, 469, 470, 471, 474, 475, 476, 477, 478, 481, 482, 483, 484, 485, 488, 489, 490, 491, 492, 495, 496, 497, 498, 499, 502, 503, 504, 505, 506, 509, 510, 511, 512, 513, 516, 517, 518, 519, 520, 523, 524, 525, 526, 527, 530, 531, 532, 533, 534, 537, 538, 539, 540, 541, 558, 559, 560, 561, 562, 565, 566, 567, 568, 569, 572, 573, 574, 577, 578, 579, 580, 581, 584, 585, 586, 587, 588, 591, 592, 593, 594, 595]
abbrev hk : PySem.W.Hook := hookY as0 fa fn tsT tf exB
def ob (s : PySem.W.SharedT) : He.AlX := obsY as0 fa fn tsT tf exB (HandSHeadRun.getT s)
theorem ob_eq (s : PySem.W.SharedT) : ob s = hk.obs s.abs := obsY_eq (HandSHeadRun.getT_eq s)
/-- the world with its answer to one row set -/
def wset (w : World) (b : Bool) : World := { w with params := { w.params with followText := fun r => if r = "special-get-raises" then b else w.params.followText r } }
theorem wset_eq (w : World) : wset w (w.params.followText "special-get-raises") = w := by
  obtain ⟨dr, pa⟩ := w
  unfold wset
  have e : (fun r => if r = "special-get-raises" then pa.followText "special-get-raises" else pa.followText r) = pa.followText := by
    funext r
    by_cases h : r = "special-get-raises"
    · rw [if_pos h, h]
    · rw [if_neg h]
  show World.mk dr { pa with followText := fun r => if r = "special-get-raises" then pa.followText "special-get-raises" else pa.followText r } = _
  rw [e]
theorem runA1 (w : World) (os : OsState) : (HandSHeadRun.endF (HandSHeadRun.stepQ (HandSHeadRun.denQ HandSHeadRun.tabQ) Rw.prog (wset w true)) 20000 Rw.prog (wset w true) os).map (fun s => (HandSHeadRun.looksF Rw.prog (PySem.W.boot_heap (wset w true).params) s.abs, HandSHeadRun.seenQ (PySem.W.view Rw.prog [80]) nms (PySem.importedModules Rw.prog.main.body) (fun s => PySem.W.xlAt (PySem.W.view Rw.prog [80]) [] s && PySem.W.recOk Rw.toRowW.records s) s.abs)) = some (true, PySem.W.openGood (PySem.W.view Rw.prog [80]) nms) := by kernel_rfl
theorem runB1 (w : World) (os : OsState) : (HandSHeadRun.endF (HandSHeadRun.stepQ (HandSHeadRun.denQ HandSHeadRun.tabQ) Rw.prog (wset w true)) 20000 Rw.prog (wset w true) os).map ob = some (hk.val (wset w true)) := by kernel_rfl
theorem runA0 (w : World) (os : OsState) : (HandSHeadRun.endF (HandSHeadRun.stepQ (HandSHeadRun.denQ HandSHeadRun.tabQ) Rw.prog (wset w false)) 20000 Rw.prog (wset w false) os).map (fun s => (HandSHeadRun.looksF Rw.prog (PySem.W.boot_heap (wset w false).params) s.abs, HandSHeadRun.seenQ (PySem.W.view Rw.prog [80]) nms (PySem.importedModules Rw.prog.main.body) (fun s => PySem.W.xlAt (PySem.W.view Rw.prog [80]) [] s && PySem.W.recOk Rw.toRowW.records s) s.abs)) = some (true, PySem.W.openGood (PySem.W.view Rw.prog [80]) nms) := by kernel_rfl
theorem runB0 (w : World) (os : OsState) : (HandSHeadRun.endF (HandSHeadRun.stepQ (HandSHeadRun.denQ HandSHeadRun.tabQ) Rw.prog (wset w false)) 20000 Rw.prog (wset w false) os).map ob = some (hk.val (wset w false)) := by kernel_rfl
theorem run1 (w : World) : HandSHeadRun.RunEq Rw (PySem.W.view Rw.prog [80]) hk ob 20000 nms (wset w true) := fun os => joinR (runA1 w os) (runB1 w os)
theorem run0 (w : World) : HandSHeadRun.RunEq Rw (PySem.W.view Rw.prog [80]) hk ob 20000 nms (wset w false) := fun os => joinR (runA0 w os) (runB0 w os)
theorem run (w : World) : HandSHeadRun.RunEq Rw (PySem.W.view Rw.prog [80]) hk ob 20000 nms w := by
  rw [← wset_eq w]
  cases w.params.followText "special-get-raises" with
  | true => exact run1 w
  | false => exact run0 w
theorem facts {w : World} {K : PySem.W.Frag} {h : Heap} {mg : Str → Option Value} (X : K.In h) (G : h.Ns mainGlobals mg) (C : He.SaysX fa fn tsT tf exB w h K) : Fx K w mg := by
  have c : He.SaysD fa fn K := C.t.d
  exact ⟨c.def_ 0 (d := ⟨("_law_drawn", none), "_law_drawn", "_law_drawn", defArgs (topS 75), defBody (topS 75), defScope (topS 75), [], []⟩) rfl,
    He.glo_ok X G (c.facts (f := .glo "_law_drawn") (List.mem_of_getElem? (i := 0) rfl)),
    ⟨(by
    intro cl hcl
    simp only [List.mem_cons, List.not_mem_nil, or_false] at hcl
    rcases hcl with rfl | rfl
    · exact He.cls_ok (c.facts (f := .cls "Box") (List.mem_of_getElem? (i := 1) rfl))
    · exact He.cls_ok (c.facts (f := .cls "Watch") (List.mem_of_getElem? (i := 2) rfl))), (by
    intro cl hcl
    simp only [List.mem_cons, List.not_mem_nil, or_false] at hcl
    rcases hcl with rfl | rfl
    · exact He.noat_ok (c.facts (f := .noat "Box" "stamp") (List.mem_of_getElem? (i := 3) rfl))
    · exact He.noat_ok (c.facts (f := .noat "Watch" "stamp") (List.mem_of_getElem? (i := 4) rfl)))⟩,
    ⟨(by
    intro cl hcl
    simp only [List.mem_cons, List.not_mem_nil, or_false] at hcl
    rcases hcl with rfl
    · exact He.cls_ok (c.facts (f := .cls "Box") (List.mem_of_getElem? (i := 1) rfl))), (by
    intro cl hcl
    simp only [List.mem_cons, List.not_mem_nil, or_false] at hcl
    rcases hcl with rfl
    · exact He.noat_ok (c.facts (f := .noat "Box" "coming") (List.mem_of_getElem? (i := 5) rfl)))⟩,
    ⟨(by
    intro cl hcl
    simp only [List.mem_cons, List.not_mem_nil, or_false] at hcl
    rcases hcl with rfl
    · exact He.cls_ok (c.facts (f := .cls "Box") (List.mem_of_getElem? (i := 1) rfl))), (by
    intro cl hcl
    simp only [List.mem_cons, List.not_mem_nil, or_false] at hcl
    rcases hcl with rfl
    · exact He.noat_ok (c.facts (f := .noat "Box" "step") (List.mem_of_getElem? (i := 6) rfl)))⟩,
    ⟨(by
    intro cl hcl
    simp only [List.mem_cons, List.not_mem_nil, or_false] at hcl
    rcases hcl with rfl
    · exact He.cls_ok (c.facts (f := .cls "Box") (List.mem_of_getElem? (i := 1) rfl))), (by
    intro cl hcl
    simp only [List.mem_cons, List.not_mem_nil, or_false] at hcl
    rcases hcl with rfl
    · exact He.noat_ok (c.facts (f := .noat "Box" "entries") (List.mem_of_getElem? (i := 7) rfl)))⟩,
    ⟨(by
    intro cl hcl
    simp only [List.mem_cons, List.not_mem_nil, or_false] at hcl
    rcases hcl with rfl
    · exact He.cls_ok (c.facts (f := .cls "Box") (List.mem_of_getElem? (i := 1) rfl))), (by
    intro cl hcl
    simp only [List.mem_cons, List.not_mem_nil, or_false] at hcl
    rcases hcl with rfl
    · exact He.noat_ok (c.facts (f := .noat "Box" "gone") (List.mem_of_getElem? (i := 8) rfl)))⟩,
    c.def_ 1 (d := ⟨("Box", some "__init__"), "__init__", "Box.__init__", defArgs (inClass (topS 42) 0), defBody (inClass (topS 42) 0), defScope (inClass (topS 42) 0), [], []⟩) rfl,
    He.glo_ok X G (c.facts (f := .glo "Box") (List.mem_of_getElem? (i := 9) rfl)),
    He.mkr_ok (c.facts (f := .mkr "Box") (List.mem_of_getElem? (i := 10) rfl)),
    ⟨(by
    intro cl hcl
    simp only [List.mem_cons, List.not_mem_nil, or_false] at hcl
    rcases hcl with rfl
    · exact He.cls_ok (c.facts (f := .cls "Shelf") (List.mem_of_getElem? (i := 11) rfl))), (by
    intro cl hcl
    simp only [List.mem_cons, List.not_mem_nil, or_false] at hcl
    rcases hcl with rfl
    · exact He.noat_ok (c.facts (f := .noat "Shelf" "stamped") (List.mem_of_getElem? (i := 12) rfl)))⟩,
    ⟨(by
    intro cl hcl
    simp only [List.mem_cons, List.not_mem_nil, or_false] at hcl
    rcases hcl with rfl
    · exact He.cls_ok (c.facts (f := .cls "Shelf") (List.mem_of_getElem? (i := 11) rfl))), (by
    intro cl hcl
    simp only [List.mem_cons, List.not_mem_nil, or_false] at hcl
    rcases hcl with rfl
    · exact He.noat_ok (c.facts (f := .noat "Shelf" "kept") (List.mem_of_getElem? (i := 13) rfl)))⟩,
    c.def_ 2 (d := ⟨("Shelf", some "__init__"), "__init__", "Shelf.__init__", defArgs (inClass (topS 70) 0), defBody (inClass (topS 70) 0), defScope (inClass (topS 70) 0), [], []⟩) rfl,
    He.glo_ok X G (c.facts (f := .glo "Shelf") (List.mem_of_getElem? (i := 14) rfl)),
    He.mkr_ok (c.facts (f := .mkr "Shelf") (List.mem_of_getElem? (i := 15) rfl)),
    excF_ok X G (c.facts (f := .glo "BadBox") (List.mem_of_getElem? (i := 16) rfl)) (c.facts (f := .exc "BadBox") (List.mem_of_getElem? (i := 17) rfl)),
    c.def_ 3 (d := ⟨("need_shelves", none), "need", "need", defArgs (topS 68), defBody (topS 68), defScope (topS 68), [], []⟩) rfl,
    He.glo_ok X G (c.facts (f := .glo "need_shelves") (List.mem_of_getElem? (i := 18) rfl)),
    c.def_ 4 (d := ⟨("Shelf", some "box"), "box", "Shelf.box", defArgs (inClass (topS 70) 1), defBody (inClass (topS 70) 1), defScope (inClass (topS 70) 1), [], []⟩) rfl,
    He.cls_ok (c.facts (f := .cls "Shelf") (List.mem_of_getElem? (i := 11) rfl)),
    He.meth_ok (c.facts (f := .meth "Shelf" "box") (List.mem_of_getElem? (i := 19) rfl)),
    c.def_ 5 (d := ⟨("head", none), "head", "head", defArgs (topS 25), defBody (topS 25), defScope (topS 25), [], []⟩) rfl,
    He.glo_ok X G (c.facts (f := .glo "head") (List.mem_of_getElem? (i := 20) rfl)),
    excF_ok X G (c.facts (f := .glo "BadLetter") (List.mem_of_getElem? (i := 21) rfl)) (c.facts (f := .exc "BadLetter") (List.mem_of_getElem? (i := 22) rfl)),
    c.def_ 6 (d := ⟨("need_letters", none), "need", "need", defArgs (topS 19), defBody (topS 19), defScope (topS 19), [], []⟩) rfl,
    He.glo_ok X G (c.facts (f := .glo "need_letters") (List.mem_of_getElem? (i := 23) rfl)),
    He.str_ok X G (c.facts (f := .str "SMALL" "abcdefghijklmnopqrstuvwxyz") (List.mem_of_getElem? (i := 24) rfl)),
    He.free_ok X G (c.facts (f := .free "all") (List.mem_of_getElem? (i := 25) rfl)),
    He.free_ok X G (c.facts (f := .free "len") (List.mem_of_getElem? (i := 26) rfl)),
    He.free_ok X G (c.facts (f := .free "isinstance") (List.mem_of_getElem? (i := 27) rfl)),
    He.free_ok X G (c.facts (f := .free "str") (List.mem_of_getElem? (i := 28) rfl)),
    c.def_ 7 (d := ⟨("is_word", none), "is_word", "is_word", defArgs (topS 22), defBody (topS 22), defScope (topS 22), [], []⟩) rfl,
    He.glo_ok X G (c.facts (f := .glo "is_word") (List.mem_of_getElem? (i := 29) rfl)),
    He.free_ok X G (c.facts (f := .free "ord") (List.mem_of_getElem? (i := 30) rfl)),
    He.int_ok X G (c.facts (f := .int "BARRED" 37) (List.mem_of_getElem? (i := 31) rfl)),
    c.def_ 8 (d := ⟨("are_signs", none), "are_signs", "are_signs", defArgs (topS 21), defBody (topS 21), defScope (topS 21), [], []⟩) rfl,
    He.glo_ok X G (c.facts (f := .glo "are_signs") (List.mem_of_getElem? (i := 32) rfl)),
    He.int_ok X G (c.facts (f := .int "MOST_NAME" 12) (List.mem_of_getElem? (i := 33) rfl)),
    He.free_ok X G (c.facts (f := .free "tuple") (List.mem_of_getElem? (i := 34) rfl)),
    He.int_ok X G (c.facts (f := .int "MOST_HEAD" 80) (List.mem_of_getElem? (i := 35) rfl)),
    c.def_ 9 (d := ⟨("need_head", none), "need_head", "need_head", defArgs (topS 23), defBody (topS 23), defScope (topS 23), [], []⟩) rfl,
    He.glo_ok X G (c.facts (f := .glo "need_head") (List.mem_of_getElem? (i := 36) rfl)),
    He.int_ok X G (c.facts (f := .int "MOST_BODY" 300) (List.mem_of_getElem? (i := 37) rfl)),
    He.int_ok X G (c.facts (f := .int "MOST_HEADS" 8) (List.mem_of_getElem? (i := 38) rfl)),
    c.def_ 10 (d := ⟨("need_letter", none), "need_letter", "need_letter", defArgs (topS 24), defBody (topS 24), defScope (topS 24), [], []⟩) rfl,
    He.glo_ok X G (c.facts (f := .glo "need_letter") (List.mem_of_getElem? (i := 39) rfl)),
    He.int_ok X G (c.facts (f := .int "MOST_NUMBER" 9999) (List.mem_of_getElem? (i := 40) rfl)),
    c.def_ 11 (d := ⟨("Box", some "need_room"), "need_room", "Box.need_room", defArgs (inClass (topS 42) 3), defBody (inClass (topS 42) 3), defScope (inClass (topS 42) 3), [], []⟩) rfl,
    He.cls_ok (c.facts (f := .cls "Box") (List.mem_of_getElem? (i := 1) rfl)),
    He.meth_ok (c.facts (f := .meth "Box" "need_room") (List.mem_of_getElem? (i := 41) rfl)),
    ⟨(by
    intro cl hcl
    simp only [List.mem_cons, List.not_mem_nil, or_false] at hcl
    rcases hcl with rfl | rfl
    · exact He.cls_ok (c.facts (f := .cls "Entry") (List.mem_of_getElem? (i := 42) rfl))
    · exact He.cls_ok (c.facts (f := .cls "Facts") (List.mem_of_getElem? (i := 43) rfl))), (by
    intro cl hcl
    simp only [List.mem_cons, List.not_mem_nil, or_false] at hcl
    rcases hcl with rfl | rfl
    · exact He.noat_ok (c.facts (f := .noat "Entry" "letter") (List.mem_of_getElem? (i := 44) rfl))
    · exact He.noat_ok (c.facts (f := .noat "Facts" "letter") (List.mem_of_getElem? (i := 45) rfl)))⟩,
    ⟨(by
    intro cl hcl
    simp only [List.mem_cons, List.not_mem_nil, or_false] at hcl
    rcases hcl with rfl | rfl
    · exact He.cls_ok (c.facts (f := .cls "Entry") (List.mem_of_getElem? (i := 42) rfl))
    · exact He.cls_ok (c.facts (f := .cls "Facts") (List.mem_of_getElem? (i := 43) rfl))), (by
    intro cl hcl
    simp only [List.mem_cons, List.not_mem_nil, or_false] at hcl
    rcases hcl with rfl | rfl
    · exact He.noat_ok (c.facts (f := .noat "Entry" "marks") (List.mem_of_getElem? (i := 46) rfl))
    · exact He.noat_ok (c.facts (f := .noat "Facts" "marks") (List.mem_of_getElem? (i := 47) rfl)))⟩,
    ⟨(by
    intro cl hcl
    simp only [List.mem_cons, List.not_mem_nil, or_false] at hcl
    rcases hcl with rfl
    · exact He.cls_ok (c.facts (f := .cls "Entry") (List.mem_of_getElem? (i := 42) rfl))), (by
    intro cl hcl
    simp only [List.mem_cons, List.not_mem_nil, or_false] at hcl
    rcases hcl with rfl
    · exact He.noat_ok (c.facts (f := .noat "Entry" "came") (List.mem_of_getElem? (i := 48) rfl)))⟩,
    ⟨(by
    intro cl hcl
    simp only [List.mem_cons, List.not_mem_nil, or_false] at hcl
    rcases hcl with rfl | rfl
    · exact He.cls_ok (c.facts (f := .cls "Entry") (List.mem_of_getElem? (i := 42) rfl))
    · exact He.cls_ok (c.facts (f := .cls "Facts") (List.mem_of_getElem? (i := 43) rfl))), (by
    intro cl hcl
    simp only [List.mem_cons, List.not_mem_nil, or_false] at hcl
    rcases hcl with rfl | rfl
    · exact He.noat_ok (c.facts (f := .noat "Entry" "changed") (List.mem_of_getElem? (i := 49) rfl))
    · exact He.noat_ok (c.facts (f := .noat "Facts" "changed") (List.mem_of_getElem? (i := 50) rfl)))⟩,
    c.def_ 12 (d := ⟨("Entry", some "__init__"), "__init__", "Entry.__init__", defArgs (inClass (topS 41) 0), defBody (inClass (topS 41) 0), defScope (inClass (topS 41) 0), [], []⟩) rfl,
    He.glo_ok X G (c.facts (f := .glo "Entry") (List.mem_of_getElem? (i := 51) rfl)),
    He.mkr_ok (c.facts (f := .mkr "Entry") (List.mem_of_getElem? (i := 52) rfl)),
    He.free_ok X G (c.facts (f := .free "int") (List.mem_of_getElem? (i := 53) rfl)),
    c.def_ 13 (d := ⟨("Box", some "add_all"), "add_all", "Box.add_all", defArgs (inClass (topS 42) 4), defBody (inClass (topS 42) 4), defScope (inClass (topS 42) 4), [], []⟩) rfl,
    He.meth_ok (c.facts (f := .meth "Box" "add_all") (List.mem_of_getElem? (i := 54) rfl)),
    excF_ok X G (c.facts (f := .glo "BadMarks") (List.mem_of_getElem? (i := 55) rfl)) (c.facts (f := .exc "BadMarks") (List.mem_of_getElem? (i := 56) rfl)),
    c.def_ 14 (d := ⟨("need_marks", none), "need_marks", "need_marks", defArgs (topS 38), defBody (topS 38), defScope (topS 38), [], []⟩) rfl,
    He.glo_ok X G (c.facts (f := .glo "need_marks") (List.mem_of_getElem? (i := 57) rfl)),
    He.int_ok X G (c.facts (f := .int "MOST_MARK" 10) (List.mem_of_getElem? (i := 58) rfl)),
    He.free_ok X G (c.facts (f := .free "set") (List.mem_of_getElem? (i := 59) rfl)),
    He.int_ok X G (c.facts (f := .int "MOST_MARKS" 6) (List.mem_of_getElem? (i := 60) rfl)),
    He.free_ok X G (c.facts (f := .free "sorted") (List.mem_of_getElem? (i := 61) rfl)),
    c.def_ 15 (d := ⟨("marks_tuple", none), "marks_tuple", "marks_tuple", defArgs (topS 39), defBody (topS 39), defScope (topS 39), [], []⟩) rfl,
    He.glo_ok X G (c.facts (f := .glo "marks_tuple") (List.mem_of_getElem? (i := 62) rfl)),
    c.def_ 16 (d := ⟨("Shelf", some "put"), "put", "Shelf.put", defArgs (inClass (topS 70) 8), defBody (inClass (topS 70) 8), defScope (inClass (topS 70) 8), [], []⟩) rfl,
    He.meth_ok (c.facts (f := .meth "Shelf" "put") (List.mem_of_getElem? (i := 63) rfl)),
    c.def_ 17 (d := ⟨("Shelf", some "numbers"), "numbers", "Shelf.numbers", defArgs (inClass (topS 70) 9), defBody (inClass (topS 70) 9), defScope (inClass (topS 70) 9), [], []⟩) rfl,
    He.meth_ok (c.facts (f := .meth "Shelf" "numbers") (List.mem_of_getElem? (i := 64) rfl)),
    c.def_ 18 (d := ⟨("_law_cell", none), "_law_cell", "_law_cell", defArgs (topS 74), defBody (topS 74), defScope (topS 74), [], []⟩) rfl,
    He.glo_ok X G (c.facts (f := .glo "_law_cell") (List.mem_of_getElem? (i := 65) rfl)),
    He.glo_ok X G (c.facts (f := .glo "BadMarks") (List.mem_of_getElem? (i := 55) rfl)),
    He.glo_ok X G (c.facts (f := .glo "BadBox") (List.mem_of_getElem? (i := 16) rfl)),
    He.glo_ok X G (c.facts (f := .glo "BadSet") (List.mem_of_getElem? (i := 66) rfl)),
    He.glo_ok X G (c.facts (f := .glo "BadLetter") (List.mem_of_getElem? (i := 21) rfl)),
    He.glo_ok X G (c.facts (f := .glo "BadQuery") (List.mem_of_getElem? (i := 67) rfl)),
    He.glo_ok X G (c.facts (f := .glo "Gone") (List.mem_of_getElem? (i := 68) rfl)),
    He.glo_ok X G (c.facts (f := .glo "BadPlace") (List.mem_of_getElem? (i := 69) rfl)),
    He.glo_ok X G (c.facts (f := .glo "BadNumber") (List.mem_of_getElem? (i := 70) rfl)),
    He.glo_ok X G (c.facts (f := .glo "BadText") (List.mem_of_getElem? (i := 71) rfl)),
    He.free_ok X G (c.facts (f := .free "ValueError") (List.mem_of_getElem? (i := 72) rfl)),
    He.free_ok X G (c.facts (f := .free "sum") (List.mem_of_getElem? (i := 73) rfl)),
    He.glo_ok X G (c.facts (f := .glo "_law_word") (List.mem_of_getElem? (i := 74) rfl)),
    c.def_ 19 (d := ⟨("_law_word", none), "_law_word", "_law_word", defArgs (topS 76), defBody (topS 76), defScope (topS 76), [], []⟩) rfl,
    wordB_ok (He.ba C.more).1,
    He.glo_ok X G (c.facts (f := .glo "_law_told") (List.mem_of_getElem? (i := 75) rfl)),
    c.def_ 20 (d := ⟨("_law_told", none), "_law_told", "_law_told", defArgs (topS 77), defBody (topS 77), defScope (topS 77), [], []⟩) rfl,
    He.glo_ok X G (c.facts (f := .glo "ShelfError") (List.mem_of_getElem? (i := 76) rfl)),
    (by
    intro cl hcl
    simp only [errs, List.mem_cons, List.not_mem_nil, or_false] at hcl
    rcases hcl with rfl | rfl | rfl | rfl | rfl | rfl | rfl | rfl | rfl
    · exact He.exm_ok (c.facts (f := .exm "BadLetter" "ShelfError" true) (List.mem_of_getElem? (i := 77) rfl))
    · exact He.exm_ok (c.facts (f := .exm "BadSet" "ShelfError" true) (List.mem_of_getElem? (i := 78) rfl))
    · exact He.exm_ok (c.facts (f := .exm "BadBox" "ShelfError" true) (List.mem_of_getElem? (i := 79) rfl))
    · exact He.exm_ok (c.facts (f := .exm "BadMarks" "ShelfError" true) (List.mem_of_getElem? (i := 80) rfl))
    · exact He.exm_ok (c.facts (f := .exm "BadNumber" "ShelfError" true) (List.mem_of_getElem? (i := 81) rfl))
    · exact He.exm_ok (c.facts (f := .exm "BadPlace" "ShelfError" true) (List.mem_of_getElem? (i := 82) rfl))
    · exact He.exm_ok (c.facts (f := .exm "Gone" "ShelfError" true) (List.mem_of_getElem? (i := 83) rfl))
    · exact He.exm_ok (c.facts (f := .exm "BadQuery" "ShelfError" true) (List.mem_of_getElem? (i := 84) rfl))
    · exact He.exm_ok (c.facts (f := .exm "BadText" "ShelfError" true) (List.mem_of_getElem? (i := 85) rfl))),
    excF_ok X G (c.facts (f := .glo "BadQuery") (List.mem_of_getElem? (i := 67) rfl)) (c.facts (f := .exc "BadQuery") (List.mem_of_getElem? (i := 86) rfl)),
    c.def_ 21 (d := ⟨("need_queries2", none), "need", "need", defArgs (topS 47), defBody (topS 47), defScope (topS 47), [], []⟩) rfl,
    He.glo_ok X G (c.facts (f := .glo "need_queries2") (List.mem_of_getElem? (i := 87) rfl)),
    He.int_ok X G (c.facts (f := .int "MOST_TEXT" 20) (List.mem_of_getElem? (i := 88) rfl)),
    c.def_ 22 (d := ⟨("is_text", none), "is_text", "is_text", defArgs (topS 49), defBody (topS 49), defScope (topS 49), [], []⟩) rfl,
    He.glo_ok X G (c.facts (f := .glo "is_text") (List.mem_of_getElem? (i := 89) rfl)),
    excF_ok X G (c.facts (f := .glo "BadSet") (List.mem_of_getElem? (i := 66) rfl)) (c.facts (f := .exc "BadSet") (List.mem_of_getElem? (i := 90) rfl)),
    c.def_ 23 (d := ⟨("need_sets", none), "need", "need", defArgs (topS 30), defBody (topS 30), defScope (topS 30), [], []⟩) rfl,
    He.glo_ok X G (c.facts (f := .glo "need_sets") (List.mem_of_getElem? (i := 91) rfl)),
    He.str_ok X G (c.facts (f := .str "FIGURES" "0123456789") (List.mem_of_getElem? (i := 92) rfl)),
    He.int_ok X G (c.facts (f := .int "MOST_FIGURES" 4) (List.mem_of_getElem? (i := 93) rfl)),
    c.def_ 24 (d := ⟨("number_of", none), "number_of", "number_of", defArgs (topS 32), defBody (topS 32), defScope (topS 32), [], []⟩) rfl,
    He.glo_ok X G (c.facts (f := .glo "number_of") (List.mem_of_getElem? (i := 94) rfl)),
    He.free_ok X G (c.facts (f := .free "max") (List.mem_of_getElem? (i := 95) rfl)),
    He.free_ok X G (c.facts (f := .free "min") (List.mem_of_getElem? (i := 96) rfl)),
    c.def_ 25 (d := ⟨("ends_of", none), "ends_of", "ends_of", defArgs (topS 33), defBody (topS 33), defScope (topS 33), [], []⟩) rfl,
    He.glo_ok X G (c.facts (f := .glo "ends_of") (List.mem_of_getElem? (i := 97) rfl)),
    He.free_ok X G (c.facts (f := .free "range") (List.mem_of_getElem? (i := 98) rfl)),
    c.def_ 26 (d := ⟨("set_of", none), "set_of", "set_of", defArgs (topS 34), defBody (topS 34), defScope (topS 34), [], []⟩) rfl,
    He.glo_ok X G (c.facts (f := .glo "set_of") (List.mem_of_getElem? (i := 99) rfl)),
    He.exm_ok (c.facts (f := .exm "BadSet" "BadSet" true) (List.mem_of_getElem? (i := 100) rfl)),
    c.def_ 27 (d := ⟨("is_set", none), "is_set", "is_set", defArgs (topS 50), defBody (topS 50), defScope (topS 50), [], []⟩) rfl,
    He.glo_ok X G (c.facts (f := .glo "is_set") (List.mem_of_getElem? (i := 101) rfl)),
    He.free_ok X G (c.facts (f := .free "bool") (List.mem_of_getElem? (i := 102) rfl)),
    c.def_ 28 (d := ⟨("is_step", none), "is_step", "is_step", defArgs (topS 51), defBody (topS 51), defScope (topS 51), [], []⟩) rfl,
    He.glo_ok X G (c.facts (f := .glo "is_step") (List.mem_of_getElem? (i := 103) rfl)),
    tabF_ok X G (c.facts (f := .glo "LENGTHS") (List.mem_of_getElem? (i := 104) rfl)) C.t 0 rfl ((He.ba (He.ba C.more).2).1),
    He.int_ok X G (c.facts (f := .int "MOST_WITHIN" 8) (List.mem_of_getElem? (i := 105) rfl)),
    c.def_ 29 (d := ⟨("need_deep", none), "need_deep", "need_deep", defArgs (topS 52), defBody (topS 52), defScope (topS 52), [], []⟩) rfl,
    He.glo_ok X G (c.facts (f := .glo "need_deep") (List.mem_of_getElem? (i := 106) rfl)),
    c.def_ 30 (d := ⟨("need_query", none), "need_query", "need_query", defArgs (topS 53), defBody (topS 53), defScope (topS 53), [], []⟩) rfl,
    He.glo_ok X G (c.facts (f := .glo "need_query") (List.mem_of_getElem? (i := 107) rfl)),
    He.int_ok X G (c.facts (f := .int "MOST_PILES" 12) (List.mem_of_getElem? (i := 108) rfl)),
    He.free_ok X G (c.facts (f := .free "list") (List.mem_of_getElem? (i := 109) rfl)),
    c.def_ 31 (d := ⟨("need_queries", none), "need_queries", "need_queries", defArgs (topS 60), defBody (topS 60), defScope (topS 60), [], []⟩) rfl,
    He.glo_ok X G (c.facts (f := .glo "need_queries") (List.mem_of_getElem? (i := 110) rfl)),
    He.free_ok X G (c.facts (f := .free "any") (List.mem_of_getElem? (i := 111) rfl)),
    ⟨(by
    intro cl hcl
    simp only [List.mem_cons, List.not_mem_nil, or_false] at hcl
    rcases hcl with rfl
    · exact He.cls_ok (c.facts (f := .cls "Facts") (List.mem_of_getElem? (i := 43) rfl))), (by
    intro cl hcl
    simp only [List.mem_cons, List.not_mem_nil, or_false] at hcl
    rcases hcl with rfl
    · exact He.noat_ok (c.facts (f := .noat "Facts" "number") (List.mem_of_getElem? (i := 112) rfl)))⟩,
    ⟨(by
    intro cl hcl
    simp only [List.mem_cons, List.not_mem_nil, or_false] at hcl
    rcases hcl with rfl
    · exact He.cls_ok (c.facts (f := .cls "Facts") (List.mem_of_getElem? (i := 43) rfl))), (by
    intro cl hcl
    simp only [List.mem_cons, List.not_mem_nil, or_false] at hcl
    rcases hcl with rfl
    · exact He.noat_ok (c.facts (f := .noat "Facts" "last") (List.mem_of_getElem? (i := 113) rfl)))⟩,
    c.def_ 32 (d := ⟨("is_so", none), "is_so", "is_so", defArgs (topS 55), defBody (topS 55), defScope (topS 55), [], []⟩) rfl,
    He.glo_ok X G (c.facts (f := .glo "is_so") (List.mem_of_getElem? (i := 114) rfl)),
    c.def_ 33 (d := ⟨("Facts", some "__init__"), "__init__", "Facts.__init__", defArgs (inClass (topS 54) 0), defBody (inClass (topS 54) 0), defScope (inClass (topS 54) 0), [], []⟩) rfl,
    He.glo_ok X G (c.facts (f := .glo "Facts") (List.mem_of_getElem? (i := 115) rfl)),
    He.mkr_ok (c.facts (f := .mkr "Facts") (List.mem_of_getElem? (i := 116) rfl)),
    c.def_ 34 (d := ⟨("asked", none), "asked", "asked", defArgs (topS 56), defBody (topS 56), defScope (topS 56), [], []⟩) rfl,
    He.glo_ok X G (c.facts (f := .glo "asked") (List.mem_of_getElem? (i := 117) rfl)),
    c.def_ 35 (d := ⟨("piles", none), "piles", "piles", defArgs (topS 61), defBody (topS 61), defScope (topS 61), [], []⟩) rfl,
    He.glo_ok X G (c.facts (f := .glo "piles") (List.mem_of_getElem? (i := 118) rfl)),
    c.def_ 36 (d := ⟨("_law_small_letter", none), "_law_small_letter", "_law_small_letter", defArgs (topS 78), defBody (topS 78), defScope (topS 78), [], []⟩) rfl,
    He.glo_ok X G (c.facts (f := .glo "_law_small_letter") (List.mem_of_getElem? (i := 119) rfl)),
    c.def_ 37 (d := ⟨("_law_some_marks", none), "_law_some_marks", "_law_some_marks", defArgs (topS 79), defBody (topS 79), defScope (topS 79), [], []⟩) rfl,
    He.glo_ok X G (c.facts (f := .glo "_law_some_marks") (List.mem_of_getElem? (i := 120) rfl)),
    excF_ok X G (c.facts (f := .glo "BadNumber") (List.mem_of_getElem? (i := 70) rfl)) (c.facts (f := .exc "BadNumber") (List.mem_of_getElem? (i := 121) rfl)),
    c.def_ 38 (d := ⟨("Box", some "entry"), "entry", "Box.entry", defArgs (inClass (topS 42) 1), defBody (inClass (topS 42) 1), defScope (inClass (topS 42) 1), [], []⟩) rfl,
    He.meth_ok (c.facts (f := .meth "Box" "entry") (List.mem_of_getElem? (i := 122) rfl)),
    c.def_ 39 (d := ⟨("Shelf", some "letter_at"), "letter_at", "Shelf.letter_at", defArgs (inClass (topS 70) 10), defBody (inClass (topS 70) 10), defScope (inClass (topS 70) 10), [], []⟩) rfl,
    He.meth_ok (c.facts (f := .meth "Shelf" "letter_at") (List.mem_of_getElem? (i := 123) rfl)),
    c.def_ 40 (d := ⟨("Shelf", some "marks_of"), "marks_of", "Shelf.marks_of", defArgs (inClass (topS 70) 11), defBody (inClass (topS 70) 11), defScope (inClass (topS 70) 11), [], []⟩) rfl,
    He.meth_ok (c.facts (f := .meth "Shelf" "marks_of") (List.mem_of_getElem? (i := 124) rfl)),
    c.def_ 41 (d := ⟨("worth", none), "worth", "worth", defArgs (topS 64), defBody (topS 64), defScope (topS 64), [], []⟩) rfl,
    He.glo_ok X G (c.facts (f := .glo "worth") (List.mem_of_getElem? (i := 125) rfl)),
    c.def_ 42 (d := ⟨("is_key", none), "is_key", "is_key", defArgs (topS 63), defBody (topS 63), defScope (topS 63), [], []⟩) rfl,
    He.glo_ok X G (c.facts (f := .glo "is_key") (List.mem_of_getElem? (i := 126) rfl)),
    He.int_ok X G (c.facts (f := .int "MOST_KEYS" 4) (List.mem_of_getElem? (i := 127) rfl)),
    c.def_ 43 (d := ⟨("ordered", none), "ordered", "ordered", defArgs (topS 65), defBody (topS 65), defScope (topS 65), [], []⟩) rfl,
    He.glo_ok X G (c.facts (f := .glo "ordered") (List.mem_of_getElem? (i := 128) rfl)),
    ⟨(by
    intro cl hcl
    simp only [List.mem_cons, List.not_mem_nil, or_false] at hcl
    rcases hcl with rfl
    · exact He.cls_ok (c.facts (f := .cls "Watch") (List.mem_of_getElem? (i := 2) rfl))), (by
    intro cl hcl
    simp only [List.mem_cons, List.not_mem_nil, or_false] at hcl
    rcases hcl with rfl
    · exact He.noat_ok (c.facts (f := .noat "Watch" "shelf") (List.mem_of_getElem? (i := 129) rfl)))⟩,
    ⟨(by
    intro cl hcl
    simp only [List.mem_cons, List.not_mem_nil, or_false] at hcl
    rcases hcl with rfl
    · exact He.cls_ok (c.facts (f := .cls "Watch") (List.mem_of_getElem? (i := 2) rfl))), (by
    intro cl hcl
    simp only [List.mem_cons, List.not_mem_nil, or_false] at hcl
    rcases hcl with rfl
    · exact He.noat_ok (c.facts (f := .noat "Watch" "wanted") (List.mem_of_getElem? (i := 130) rfl)))⟩,
    ⟨(by
    intro cl hcl
    simp only [List.mem_cons, List.not_mem_nil, or_false] at hcl
    rcases hcl with rfl
    · exact He.cls_ok (c.facts (f := .cls "Watch") (List.mem_of_getElem? (i := 2) rfl))), (by
    intro cl hcl
    simp only [List.mem_cons, List.not_mem_nil, or_false] at hcl
    rcases hcl with rfl
    · exact He.noat_ok (c.facts (f := .noat "Watch" "known") (List.mem_of_getElem? (i := 131) rfl)))⟩,
    c.def_ 44 (d := ⟨("Watch", some "__init__"), "__init__", "Watch.__init__", defArgs (inClass (topS 72) 0), defBody (inClass (topS 72) 0), defScope (inClass (topS 72) 0), [], []⟩) rfl,
    He.glo_ok X G (c.facts (f := .glo "Watch") (List.mem_of_getElem? (i := 132) rfl)),
    He.mkr_ok (c.facts (f := .mkr "Watch") (List.mem_of_getElem? (i := 133) rfl)),
    c.def_ 45 (d := ⟨("tally", none), "tally", "tally", defArgs (topS 62), defBody (topS 62), defScope (topS 62), [], []⟩) rfl,
    He.glo_ok X G (c.facts (f := .glo "tally") (List.mem_of_getElem? (i := 134) rfl)),
    c.def_ 46 (d := ⟨("law", none), "law", "law", defArgs (topS 80), defBody (topS 80), defScope (topS 80), [], []⟩) rfl,
    He.glo_ok X G (c.facts (f := .glo "law") (List.mem_of_getElem? (i := 135) rfl))⟩
end K95

namespace K95
open PySem PySem.Spec PyProof.Rows L2 Mir
section
variable {P : Program} {w : World} {K : PySem.W.Frag} {mg : Str → Option Value} {base : Heap} {T : List (Addr × Str)}
theorem sc__law_drawn : FnScope ["cell", "k", "more"] ["cell", "k"] (defScope (topS 75)) := ⟨rfl, rfl, rfl, by decide +kernel, rfl, by decide +kernel, by decide +kernel⟩
def b__law_drawn : SD := (sSeq (sSet 2 (e2 modI (e2 addDT (e2 mulD (eVar 0) (eC (.int 6364136223846793005))) (e2 mulD (e2 addDT (eVar 1) (eC (.int 1))) (eC (.int 1442695040888963407)))) (eC (.int 340282366920938463463374607431768211507))))
    (sSeq (sSet 2 (e2 modI (e2 mulD (eVar 2) (eVar 2)) (eC (.int 340282366920938463463374607431768211297))))
    (sSeq (sSet 2 (e2 mulD (e2 mulD (e2 addDT (e2 modI (eVar 2) (eC (.int 18446744073709551557))) (eC (.int 1))) (e2 addDT (e2 fdivI (eVar 2) (eC (.int 18446744073709551557))) (eC (.int 1)))) (eVar 2)))
    (sRet (e2 modI (eVar 2) (eC (.int 340282366920938463463374607431768211507)))))))
def M__law_drawn : FD := fnM 2 3 b__law_drawn
theorem h__law_drawn (F : Fx K w mg) : Has P w K mg base T "_law_drawn" (1) M__law_drawn := by
  obtain ⟨fd, hf⟩ := F.f__law_drawn
  refine ⟨⟨_, fd, ["cell", "k"], F.g__law_drawn, hf.kp, hf.bindsN (fun _ _ _ _ _ _ us hl => match us, hl with | [_, _], _ => rfl), fn_mk (k := 0) noO hf sc__law_drawn (fun cdv A outer s H E hr hx tk hp => ?_)⟩⟩
  exact (dss_cons (ds_set (i := 2) sc__law_drawn.nd (de_oz (de_bin od_mod (de_ob (de_bin od_addA (de_ob (de_bin od_mul (de_zb (de_var 0)) (de_ob de_int))) (de_ob (de_bin od_mul (de_ob (de_bin od_addA (de_zb (de_var 1)) (de_ob de_int))) (de_ob de_int))))) (de_ob de_int))))
    (dss_cons (ds_set (i := 2) sc__law_drawn.nd (de_oz (de_bin od_mod (de_ob (de_bin od_mul (de_zb (de_var 2)) (de_zb (de_var 2)))) (de_ob de_int))))
    (dss_cons (ds_set (i := 2) sc__law_drawn.nd (de_oz (de_bin od_mul (de_ob (de_bin od_mul (de_ob (de_bin od_addA (de_ob (de_bin od_mod (de_zb (de_var 2)) (de_ob de_int))) (de_ob de_int))) (de_ob (de_bin od_addA (de_ob (de_bin od_fdiv (de_zb (de_var 2)) (de_ob de_int))) (de_ob de_int))))) (de_zb (de_var 2)))))
    (dss_one (ds_ret (de_oz (de_bin od_mod (de_zb (de_var 2)) (de_ob de_int))))))))

theorem sc_Box___init__ : FnScope ["self", "stamp"] ["self", "stamp"] (defScope (inClass (topS 42) 0)) := ⟨rfl, rfl, rfl, by decide +kernel, rfl, by decide +kernel, by decide +kernel⟩
def b_Box___init__ : SD := (sSeq (sFldSet ["Box", "Watch"] "stamp" (eVar 0) (eVar 1))
    (sSeq (sFldSet ["Box"] "coming" (eVar 0) (eC (.int 1)))
    (sSeq (sFldSet ["Box"] "step" (eVar 0) (eC (.int 0)))
    (sSeq (sFldSet ["Box"] "entries" (eVar 0) (eSto (eC (.dct []))))
    (sFldSet ["Box"] "gone" (eVar 0) (eSto (eC (.dct []))))))))
def M_Box___init__ : FD := fnM 2 2 b_Box___init__
theorem h_Box___init__ (F : Fx K w mg) : HasN P w K mg base T "Box" (1) M_Box___init__ := by
  obtain ⟨fd, hf⟩ := F.f_Box___init__
  refine ⟨F.g_Box, ⟨_, fd, ["self", "stamp"], F.k_Box, hf.bindsN (fun _ _ _ _ _ _ us hl => match us, hl with | [_, _], _ => rfl), fn_mk (k := 0) noO hf sc_Box___init__ (fun cdv A outer s H E hr hx tk hp => ?_)⟩⟩
  exact (dss_cons (ds_fld F.fl_stamp (de_var 0) (de_var 1))
    (dss_cons (ds_fld F.fl_coming (de_var 0) (de_oz de_int))
    (dss_cons (ds_fld F.fl_step (de_var 0) (de_oz de_int))
    (dss_cons (ds_fld F.fl_entries (de_var 0) (de_sto de_dict0))
    (dss_one (ds_fld F.fl_gone (de_var 0) (de_sto de_dict0)))))))

theorem sc_Shelf___init__ : FnScope ["self"] ["self"] (defScope (inClass (topS 70) 0)) := ⟨rfl, rfl, rfl, by decide +kernel, rfl, by decide +kernel, by decide +kernel⟩
def b_Shelf___init__ : SD := (sSeq (sFldSet ["Shelf"] "stamped" (eVar 0) (eC (.int 1)))
    (sFldSet ["Shelf"] "kept" (eVar 0) (eSto (eDisp ["in"] (aCons (eNew "Box" M_Box___init__ (aCons (eC (.int 1)) aNil)) aNil)))))
def M_Shelf___init__ : FD := fnM 1 1 b_Shelf___init__
theorem h_Shelf___init__ (F : Fx K w mg) : HasN P w K mg base T "Shelf" (3) M_Shelf___init__ := by
  obtain ⟨fd, hf⟩ := F.f_Shelf___init__
  refine ⟨F.g_Shelf, ⟨_, fd, ["self"], F.k_Shelf, hf.bindsN (fun _ _ _ _ _ _ us hl => match us, hl with | [_], _ => rfl), fn_mk (k := 2) noO hf sc_Shelf___init__ (fun cdv A outer s H E hr hx tk hp => ?_)⟩⟩
  exact (dss_cons (ds_fld F.fl_stamped (de_var 0) (de_oz de_int))
    (dss_one (ds_fld F.fl_kept (de_var 0) (de_sto (de_disp (dp_cons (de_new (h_Box___init__ F) hr hx (da_cons (de_oz de_int) da_nil)) dp_nil))))))

theorem sc_need_shelves : FnScope ["good"] ["good"] (defScope (topS 68)) := ⟨rfl, rfl, rfl, by decide +kernel, rfl, by decide +kernel, by decide +kernel⟩
def b_need_shelves : SD := (sIf (tNotD (tB1 (eVar 0))) (sRaise "BadBox") sNext)
def M_need_shelves : FD := fnM 1 1 b_need_shelves
theorem h_need_shelves (F : Fx K w mg) : Has P w K mg base T "need_shelves" (1) M_need_shelves := by
  obtain ⟨fd, hf⟩ := F.f_need_shelves
  refine ⟨⟨_, fd, ["good"], F.g_need_shelves, hf.kp, hf.bindsN (fun _ _ _ _ _ _ us hl => match us, hl with | [_], _ => rfl), fn_mk (k := 0) noO hf sc_need_shelves (fun cdv A outer s H E hr hx tk hp => ?_)⟩⟩
  exact (dss_one (ds_if (dt_not (dt_val (de_var 0))) (dss_one (ds_raise F.e_BadBox tk)) dss_nil))

theorem sc_Shelf_box : FnScope ["self", "name"] ["self", "name"] (defScope (inClass (topS 70) 1)) := ⟨rfl, rfl, rfl, by decide +kernel, rfl, by decide +kernel, by decide +kernel⟩
def b_Shelf_box : SD := (sSeq (sExpr (eCall M_need_shelves (aCons (e2S (inS2 false) (eVar 1) (eFld ["Shelf"] "kept" (eVar 0))) aNil)))
    (sRet (e2S ixS (eFld ["Shelf"] "kept" (eVar 0)) (eVar 1))))
def M_Shelf_box : FD := fnM 2 2 b_Shelf_box
theorem h_Shelf_box (F : Fx K w mg) : HasM P w K mg base T "Shelf" "box" (2) M_Shelf_box := by
  obtain ⟨fd, hf⟩ := F.f_Shelf_box
  refine ⟨F.c_Shelf, ⟨_, fd, ["self", "name"], F.m_Shelf_box, hf.bindsN (fun _ _ _ _ _ _ us hl => match us, hl with | [_, _], _ => rfl), fn_mk (k := 1) noO hf sc_Shelf_box (fun cdv A outer s H E hr hx tk hp => ?_)⟩⟩
  exact (dss_cons (ds_expr (de_call (h_need_shelves F) hr hx (da_cons (de_oz (de_inS hr.units (de_zb (de_var 1)) (de_zb (de_fld F.fl_kept (de_var 0))))) da_nil)))
    (dss_one (ds_ret (de_ixS hr.units (de_zb (de_fld F.fl_kept (de_var 0))) (de_zb (de_var 1))))))

theorem sc_head : FnScope ["letter", "name", "one", "text"] ["letter", "name"] (defScope (topS 25)) := ⟨rfl, rfl, rfl, by decide +kernel, rfl, by decide +kernel, by decide +kernel⟩
def b_head : SD := (sSeq (sFor (iTpl (e2S ixS (eVar 0) (eC (.int 0)))) (gTp 2 (gsCons (gNm 2) (gsCons (gNm 3) gsNil))) (sIf (tB1 (e2 eqD (eVar 2) (eVar 1))) (sRet (eVar 3)) sNext))
    (sRet (eC .non)))
def M_head : FD := fnM 2 4 b_head
theorem h_head (F : Fx K w mg) : Has P w K mg base T "head" (1) M_head := by
  obtain ⟨fd, hf⟩ := F.f_head
  refine ⟨⟨_, fd, ["letter", "name"], F.g_head, hf.kp, hf.bindsN (fun _ _ _ _ _ _ us hl => match us, hl with | [_, _], _ => rfl), fn_mk (k := 0) noO hf sc_head (fun cdv A outer s H E hr hx tk hp => ?_)⟩⟩
  exact (dss_cons (ds_for hp (di_tup (de_ixS hr.units (de_zb (de_var 0)) (de_ob de_int))) (dg_tup (n := 2) (dgs_cons (dg_name (i := 2) sc_head.nd) (dgs_cons (dg_name (i := 3) sc_head.nd) dgs_nil))) (dss_one (ds_if (dt_cmp (od_eq hr.units) (de_zb (de_var 2)) (de_zb (de_var 1))) (dss_one (ds_ret (de_var 3))) dss_nil)))
    (dss_one (ds_ret (de_oz de_non))))

theorem sc_need_letters : FnScope ["good"] ["good"] (defScope (topS 19)) := ⟨rfl, rfl, rfl, by decide +kernel, rfl, by decide +kernel, by decide +kernel⟩
def b_need_letters : SD := (sIf (tNotD (tB1 (eVar 0))) (sRaise "BadLetter") sNext)
def M_need_letters : FD := fnM 1 1 b_need_letters
theorem h_need_letters (F : Fx K w mg) : Has P w K mg base T "need_letters" (1) M_need_letters := by
  obtain ⟨fd, hf⟩ := F.f_need_letters
  refine ⟨⟨_, fd, ["good"], F.g_need_letters, hf.kp, hf.bindsN (fun _ _ _ _ _ _ us hl => match us, hl with | [_], _ => rfl), fn_mk (k := 0) noO hf sc_need_letters (fun cdv A outer s H E hr hx tk hp => ?_)⟩⟩
  exact (dss_one (ds_if (dt_not (dt_val (de_var 0))) (dss_one (ds_raise F.e_BadLetter tk)) dss_nil))

theorem sc_is_word : FnScope ["thing", "most", "sign"] ["thing", "most"] (defScope (topS 22)) := ⟨rfl, rfl, rfl, by decide +kernel, rfl, by decide +kernel, by decide +kernel⟩
def b_is_word : SD := (sRet (eAndD (e1 (isiD "str") (eVar 0)) (eAndD (eCh leD leD (eC (.int 1)) (eNS lenS (aCons (eVar 0) aNil)) (eVar 1)) (eN allD (aCons (eLc0 (iStrD (eVar 0)) (gNm 2) tYesD (e2S (inS2 false) (eVar 2) (eC (.str "abcdefghijklmnopqrstuvwxyz"))) [2]) aNil)))))
def M_is_word : FD := fnM 2 3 b_is_word
theorem h_is_word (F : Fx K w mg) : Has P w K mg base T "is_word" (1) M_is_word := by
  obtain ⟨fd, hf⟩ := F.f_is_word
  refine ⟨⟨_, fd, ["thing", "most"], F.g_is_word, hf.kp, hf.bindsN (fun _ _ _ _ _ _ us hl => match us, hl with | [_, _], _ => rfl), fn_mk (k := 0) noO hf sc_is_word (fun cdv A outer s H E hr hx tk hp => ?_)⟩⟩
  exact (dss_one (ds_ret (de_oz (de_and (de_isi (de_zb (de_var 0)) F.z_isinstance F.z_str (by decide +kernel)) (de_and (de_chain od_le od_le (de_ob de_int) (de_ob (de_callBS cs_len (da_cons (de_zb (de_var 0)) da_nil) F.z_len (by decide +kernel))) (de_zb (de_var 1))) (de_one (de_callB cd_all (da_cons (de_ob (dlc_0 [("sign", 2)] sc_is_word.nd (di_str (de_var 0)).x (fun _ _ _ _ _ => (dg_name (i := 2) sc_is_word.nd)) (fun _ _ _ _ _ => pts_no) (fun _ _ _ _ _ => (de_oz (de_inS hr.units (de_zb (de_var 2)) (de_ob (de_gstr F.s_SMALL)))))).de) da_nil) F.z_all (by decide +kernel))))))))

theorem sc_are_signs : FnScope ["text", "sign"] ["text"] (defScope (topS 21)) := ⟨rfl, rfl, rfl, by decide +kernel, rfl, by decide +kernel, by decide +kernel⟩
def b_are_signs : SD := (sRet (eN allD (aCons (eLc0 (iStrD (eVar 0)) (gNm 1) tYesD (eAndD (eCh leD leD (eC (.str " ")) (eVar 1) (eC (.str "~"))) (e2 neD (eN ordD (aCons (eVar 1) aNil)) (eC (.int 37)))) [1]) aNil)))
def M_are_signs : FD := fnM 1 2 b_are_signs
theorem h_are_signs (F : Fx K w mg) : Has P w K mg base T "are_signs" (1) M_are_signs := by
  obtain ⟨fd, hf⟩ := F.f_are_signs
  refine ⟨⟨_, fd, ["text"], F.g_are_signs, hf.kp, hf.bindsN (fun _ _ _ _ _ _ us hl => match us, hl with | [_], _ => rfl), fn_mk (k := 0) noO hf sc_are_signs (fun cdv A outer s H E hr hx tk hp => ?_)⟩⟩
  exact (dss_one (ds_ret (de_oz (de_callB cd_all (da_cons (de_ob (dlc_0 [("sign", 1)] sc_are_signs.nd (di_str (de_var 0)).x (fun _ _ _ _ _ => (dg_name (i := 1) sc_are_signs.nd)) (fun _ _ _ _ _ => pts_no) (fun _ _ _ _ _ => (de_oz (de_and (de_chain od_le od_le (de_ob de_str) (de_zb (de_var 1)) (de_ob de_str)) (de_one (de_cmp (od_ne hr.units) (de_ob (de_callB cd_ord (da_cons (de_zb (de_var 1)) da_nil) F.z_ord (by decide +kernel))) (de_ob (de_gint F.i_BARRED)))))))).de) da_nil) F.z_all (by decide +kernel)))))

theorem sc_need_head : FnScope ["head", "text"] ["head"] (defScope (topS 23)) := ⟨rfl, rfl, rfl, by decide +kernel, rfl, by decide +kernel, by decide +kernel⟩
def b_need_head : SD := (sSeq (sExpr (eCall M_need_letters (aCons (eAndD (e1 (isiD "tuple") (eVar 0)) (eAndD (e2 eqD (eNS lenS (aCons (eVar 0) aNil)) (eC (.int 2))) (eCall M_is_word (aCons (e2S ixS (eVar 0) (eC (.int 0))) (aCons (eC (.int 12)) aNil))))) aNil)))
    (sSeq (sSet 1 (e2S ixS (eVar 0) (eC (.int 1))))
    (sExpr (eCall M_need_letters (aCons (eAndD (e1 (isiD "str") (eVar 1)) (eAndD (e2 leD (eNS lenS (aCons (eVar 1) aNil)) (eC (.int 80))) (eAndD (eCall M_are_signs (aCons (eVar 1) aNil)) (e2 eqD (eVar 1) (eMt "str" stripD (eVar 1) (aCons (eC (.str " ")) aNil)))))) aNil)))))
def M_need_head : FD := fnM 1 2 b_need_head
theorem h_need_head (F : Fx K w mg) : Has P w K mg base T "need_head" (2) M_need_head := by
  obtain ⟨fd, hf⟩ := F.f_need_head
  refine ⟨⟨_, fd, ["head"], F.g_need_head, hf.kp, hf.bindsN (fun _ _ _ _ _ _ us hl => match us, hl with | [_], _ => rfl), fn_mk (k := 1) noO hf sc_need_head (fun cdv A outer s H E hr hx tk hp => ?_)⟩⟩
  exact (dss_cons (ds_expr (de_call (h_need_letters F) hr hx (da_cons (de_and (de_isi (de_zb (de_var 0)) F.z_isinstance F.z_tuple (by decide +kernel)) (de_and (de_cmp (od_eq hr.units) (de_ob (de_callBS cs_len (da_cons (de_zb (de_var 0)) da_nil) F.z_len (by decide +kernel))) (de_ob de_int)) (de_one (de_call (h_is_word F) hr hx (da_cons (de_ixS hr.units (de_zb (de_var 0)) (de_ob de_int)) (da_cons (de_oz (de_gint F.i_MOST_NAME)) da_nil)))))) da_nil)))
    (dss_cons (ds_set (i := 1) sc_need_head.nd (de_ixS hr.units (de_zb (de_var 0)) (de_ob de_int)))
    (dss_one (ds_expr (de_call (h_need_letters F) hr hx (da_cons (de_oz (de_and (de_isi (de_zb (de_var 1)) F.z_isinstance F.z_str (by decide +kernel)) (de_and (de_cmp od_le (de_ob (de_callBS cs_len (da_cons (de_zb (de_var 1)) da_nil) F.z_len (by decide +kernel))) (de_ob (de_gint F.i_MOST_HEAD))) (de_and (de_call (h_are_signs F) hr hx (da_cons (de_var 1) da_nil)) (de_one (de_cmp (od_eq hr.units) (de_zb (de_var 1)) (de_ob (de_mt PySem.F.plainAttrs_str PySem.F.slot_str_strip PySem.F.type_str_strip md_strip (de_zb (de_var 1)) (da_cons (de_ob de_str) da_nil))))))))) da_nil))))))

theorem sc_need_letter : FnScope ["letter", "head", "row"] ["letter"] (defScope (topS 24)) := ⟨rfl, rfl, rfl, by decide +kernel, rfl, by decide +kernel, by decide +kernel⟩
def b_need_letter : SD := (sSeq (sExpr (eCall M_need_letters (aCons (eAndD (e1 (isiD "tuple") (eVar 0)) (eAndD (e2 eqD (eNS lenS (aCons (eVar 0) aNil)) (eC (.int 2))) (e1 (isiD "tuple") (e2S ixS (eVar 0) (eC (.int 0)))))) aNil)))
    (sSeq (sExpr (eCall M_need_letters (aCons (eAndD (e2 leD (eNS lenS (aCons (e2S ixS (eVar 0) (eC (.int 0))) aNil)) (eC (.int 8))) (eAndD (e1 (isiD "str") (e2S ixS (eVar 0) (eC (.int 1)))) (e2 leD (eNS lenS (aCons (e2S ixS (eVar 0) (eC (.int 1))) aNil)) (eC (.int 300))))) aNil)))
    (sSeq (sExpr (eCall M_need_letters (aCons (eN allD (aCons (eLc0 (iLst (eMt "str" splitD (e2S ixS (eVar 0) (eC (.int 1))) (aCons (eC (.str "\n")) aNil))) (gNm 2) tYesD (eCall M_are_signs (aCons (eVar 2) aNil)) [2]) aNil)) aNil)))
    (sFor (iTpl (e2S ixS (eVar 0) (eC (.int 0)))) (gNm 1) (sExpr (eCall M_need_head (aCons (eVar 1) aNil)))))))
def M_need_letter : FD := fnM 1 3 b_need_letter
theorem h_need_letter (F : Fx K w mg) : Has P w K mg base T "need_letter" (3) M_need_letter := by
  obtain ⟨fd, hf⟩ := F.f_need_letter
  refine ⟨⟨_, fd, ["letter"], F.g_need_letter, hf.kp, hf.bindsN (fun _ _ _ _ _ _ us hl => match us, hl with | [_], _ => rfl), fn_mk (k := 2) noO hf sc_need_letter (fun cdv A outer s H E hr hx tk hp => ?_)⟩⟩
  exact (dss_cons (ds_expr (de_call (h_need_letters F) hr hx (da_cons (de_oz (de_and (de_isi (de_zb (de_var 0)) F.z_isinstance F.z_tuple (by decide +kernel)) (de_and (de_cmp (od_eq hr.units) (de_ob (de_callBS cs_len (da_cons (de_zb (de_var 0)) da_nil) F.z_len (by decide +kernel))) (de_ob de_int)) (de_one (de_isi (de_zb (de_ixS hr.units (de_zb (de_var 0)) (de_ob de_int))) F.z_isinstance F.z_tuple (by decide +kernel)))))) da_nil)))
    (dss_cons (ds_expr (de_call (h_need_letters F) hr hx (da_cons (de_oz (de_and (de_cmp od_le (de_ob (de_callBS cs_len (da_cons (de_zb (de_ixS hr.units (de_zb (de_var 0)) (de_ob de_int))) da_nil) F.z_len (by decide +kernel))) (de_ob (de_gint F.i_MOST_HEADS))) (de_and (de_isi (de_zb (de_ixS hr.units (de_zb (de_var 0)) (de_ob de_int))) F.z_isinstance F.z_str (by decide +kernel)) (de_one (de_cmp od_le (de_ob (de_callBS cs_len (da_cons (de_zb (de_ixS hr.units (de_zb (de_var 0)) (de_ob de_int))) da_nil) F.z_len (by decide +kernel))) (de_ob (de_gint F.i_MOST_BODY))))))) da_nil)))
    (dss_cons (ds_expr (de_call (h_need_letters F) hr hx (da_cons (de_oz (de_callB cd_all (da_cons (de_ob (dlc_0 [("row", 2)] sc_need_letter.nd (di_list (de_oz (de_mt PySem.F.plainAttrs_str PySem.F.slot_str_split PySem.F.type_str_split md_split (de_zb (de_ixS hr.units (de_zb (de_var 0)) (de_ob de_int))) (da_cons (de_ob de_str) da_nil)))).x (fun _ _ _ _ _ => (dg_name (i := 2) sc_need_letter.nd)) (fun _ _ _ _ _ => pts_no) (fun _ _ _ _ _ => (de_call (h_are_signs F) hr passLN (da_cons (de_var 2) da_nil)))).de) da_nil) F.z_all (by decide +kernel))) da_nil)))
    (dss_one (ds_for hp (di_tup (de_ixS hr.units (de_zb (de_var 0)) (de_ob de_int))) (dg_name (i := 1) sc_need_letter.nd) (dss_one (ds_expr (de_call (h_need_head F) hr hx (da_cons (de_var 1) da_nil)))))))))

theorem sc_Box_need_room : FnScope ["self", "many"] ["self", "many"] (defScope (inClass (topS 42) 3)) := ⟨rfl, rfl, rfl, by decide +kernel, rfl, by decide +kernel, by decide +kernel⟩
def b_Box_need_room : SD := (sIf (tB1 (e2 gtI (e2 addDT (eFld ["Box"] "coming" (eVar 0)) (eVar 1)) (e2 addDT (eC (.int 9999)) (eC (.int 1))))) (sRaise "BadBox") sNext)
def M_Box_need_room : FD := fnM 2 2 b_Box_need_room
theorem h_Box_need_room (F : Fx K w mg) : HasM P w K mg base T "Box" "need_room" (1) M_Box_need_room := by
  obtain ⟨fd, hf⟩ := F.f_Box_need_room
  refine ⟨F.c_Box, ⟨_, fd, ["self", "many"], F.m_Box_need_room, hf.bindsN (fun _ _ _ _ _ _ us hl => match us, hl with | [_, _], _ => rfl), fn_mk (k := 0) noO hf sc_Box_need_room (fun cdv A outer s H E hr hx tk hp => ?_)⟩⟩
  exact (dss_one (ds_if (dt_cmp od_gt (de_ob (de_bin od_addA (de_zb (de_fld F.fl_coming (de_var 0))) (de_zb (de_var 1)))) (de_ob (de_bin od_addA (de_ob (de_gint F.i_MOST_NUMBER)) (de_ob de_int)))) (dss_one (ds_raise F.e_BadBox tk)) dss_nil))

theorem sc_Entry___init__ : FnScope ["self", "letter", "marks", "came", "changed"] ["self", "letter", "marks", "came", "changed"] (defScope (inClass (topS 41) 0)) := ⟨rfl, rfl, rfl, by decide +kernel, rfl, by decide +kernel, by decide +kernel⟩
def b_Entry___init__ : SD := (sSeq (sFldSet ["Entry", "Facts"] "letter" (eVar 0) (eVar 1))
    (sSeq (sFldSet ["Entry", "Facts"] "marks" (eVar 0) (eVar 2))
    (sSeq (sFldSet ["Entry"] "came" (eVar 0) (eVar 3))
    (sFldSet ["Entry", "Facts"] "changed" (eVar 0) (eVar 4)))))
def M_Entry___init__ : FD := fnM 5 5 b_Entry___init__
theorem h_Entry___init__ (F : Fx K w mg) : HasN P w K mg base T "Entry" (1) M_Entry___init__ := by
  obtain ⟨fd, hf⟩ := F.f_Entry___init__
  refine ⟨F.g_Entry, ⟨_, fd, ["self", "letter", "marks", "came", "changed"], F.k_Entry, hf.bindsN (fun _ _ _ _ _ _ us hl => match us, hl with | [_, _, _, _, _], _ => rfl), fn_mk (k := 0) noO hf sc_Entry___init__ (fun cdv A outer s H E hr hx tk hp => ?_)⟩⟩
  exact (dss_cons (ds_fld F.fl_letter (de_var 0) (de_var 1))
    (dss_cons (ds_fld F.fl_marks (de_var 0) (de_var 2))
    (dss_cons (ds_fld F.fl_came (de_var 0) (de_var 3))
    (dss_one (ds_fld F.fl_changed (de_var 0) (de_var 4))))))

theorem sc_Box_add_all : FnScope ["self", "pairs", "found", "letter", "marks"] ["self", "pairs"] (defScope (inClass (topS 42) 4)) := ⟨rfl, rfl, rfl, by decide +kernel, rfl, by decide +kernel, by decide +kernel⟩
def b_Box_add_all : SD := (sSeq (sExpr (eMeth "Box" "need_room" M_Box_need_room (eVar 0) (aCons (eNS lenS (aCons (eVar 1) aNil)) aNil)))
    (sSeq (sSetO 2 (eN mkL aNil))
    (sSeq (sFldSet ["Box"] "step" (eVar 0) (e2 addDT (eFld ["Box"] "step" (eVar 0)) (eN intD (aCons (e2 neD (eVar 1) (eN mkL aNil)) aNil))))
    (sSeq (sFor (iLst (eVar 1)) (gTp 2 (gsCons (gNm 3) (gsCons (gNm 4) gsNil))) (sSeq (sSetS (eFld ["Box"] "entries" (eVar 0)) (eFld ["Box"] "coming" (eVar 0)) (eNew "Entry" M_Entry___init__ (aCons (eVar 3) (aCons (eVar 4) (aCons (eFld ["Box"] "step" (eVar 0)) (aCons (eFld ["Box"] "step" (eVar 0)) aNil))))))
    (sSeq (sApp 2 (eFld ["Box"] "coming" (eVar 0)))
    (sFldSet ["Box"] "coming" (eVar 0) (e2 addDT (eFld ["Box"] "coming" (eVar 0)) (eC (.int 1)))))))
    (sRet (eVar 2))))))
def M_Box_add_all : FD := fnM 2 5 b_Box_add_all
theorem h_Box_add_all (F : Fx K w mg) : HasM P w K mg base T "Box" "add_all" (3) M_Box_add_all := by
  obtain ⟨fd, hf⟩ := F.f_Box_add_all
  refine ⟨F.c_Box, ⟨_, fd, ["self", "pairs"], F.m_Box_add_all, hf.bindsN (fun _ _ _ _ _ _ us hl => match us, hl with | [_, _], _ => rfl), fn_mk (k := 2) (fun i => i == 2) hf sc_Box_add_all (fun cdv A outer s H E hr hx tk hp => ?_)⟩⟩
  exact (dss_cons (ds_expr (de_meth (h_Box_need_room F) hr hx (de_var 0) (da_cons (de_oz (de_callBS cs_len (da_cons (de_zb (de_var 1)) da_nil) F.z_len (by decide +kernel))) da_nil)))
    (dss_cons (ds_setO (i := 2) sc_Box_add_all.nd (de_lst da_nil))
    (dss_cons (ds_fld F.fl_step (de_var 0) (de_oz (de_bin od_addA (de_zb (de_fld F.fl_step (de_var 0))) (de_ob (de_callT cd_int (da_cons (de_ob (de_cmp (od_ne hr.units) (de_zb (de_var 1)) (de_ob (de_lst da_nil)))) da_nil) F.z_int (by decide +kernel))))))
    (dss_cons (ds_for hp (di_list (de_var 1)) (dg_tup (n := 2) (dgs_cons (dg_name (i := 3) sc_Box_add_all.nd) (dgs_cons (dg_name (i := 4) sc_Box_add_all.nd) dgs_nil))) (dss_cons (ds_setS hr.units (de_zb (de_fld F.fl_entries (de_var 0))) (de_zb (de_fld F.fl_coming (de_var 0))) (de_new (h_Entry___init__ F) hr hx (da_cons (de_var 3) (da_cons (de_var 4) (da_cons (de_fld F.fl_step (de_var 0)) (da_cons (de_fld F.fl_step (de_var 0)) da_nil))))))
    (dss_cons (ds_app (i := 2) (de_fld F.fl_coming (de_var 0)))
    (dss_one (ds_fld F.fl_coming (de_var 0) (de_oz (de_bin od_addA (de_zb (de_fld F.fl_coming (de_var 0))) (de_ob de_int))))))))
    (dss_one (ds_ret (de_var 2)))))))

theorem sc_need_marks : FnScope ["good"] ["good"] (defScope (topS 38)) := ⟨rfl, rfl, rfl, by decide +kernel, rfl, by decide +kernel, by decide +kernel⟩
def b_need_marks : SD := (sIf (tNotD (tB1 (eVar 0))) (sRaise "BadMarks") sNext)
def M_need_marks : FD := fnM 1 1 b_need_marks
theorem h_need_marks (F : Fx K w mg) : Has P w K mg base T "need_marks" (1) M_need_marks := by
  obtain ⟨fd, hf⟩ := F.f_need_marks
  refine ⟨⟨_, fd, ["good"], F.g_need_marks, hf.kp, hf.bindsN (fun _ _ _ _ _ _ us hl => match us, hl with | [_], _ => rfl), fn_mk (k := 0) noO hf sc_need_marks (fun cdv A outer s H E hr hx tk hp => ?_)⟩⟩
  exact (dss_one (ds_if (dt_not (dt_val (de_var 0))) (dss_one (ds_raise F.e_BadMarks tk)) dss_nil))

theorem sc_marks_tuple : FnScope ["marks", "mark"] ["marks"] (defScope (topS 39)) := ⟨rfl, rfl, rfl, by decide +kernel, rfl, by decide +kernel, by decide +kernel⟩
def b_marks_tuple : SD := (sSeq (sExpr (eCall M_need_marks (aCons (eN allD (aCons (eLc0 (iLst (eVar 0)) (gNm 1) tYesD (eCall M_is_word (aCons (eVar 1) (aCons (eC (.int 10)) aNil))) [1]) aNil)) aNil)))
    (sSeq (sExpr (eCall M_need_marks (aCons (eAndD (e2 leD (eNS lenS (aCons (eVar 0) aNil)) (eC (.int 6))) (e2 eqD (e1S lenSet (eVar 0)) (eNS lenS (aCons (eVar 0) aNil)))) aNil)))
    (sRet (eNS tupS (aCons (eNS sortS3 (aCons (eVar 0) aNil)) aNil)))))
def M_marks_tuple : FD := fnM 1 2 b_marks_tuple
theorem h_marks_tuple (F : Fx K w mg) : Has P w K mg base T "marks_tuple" (2) M_marks_tuple := by
  obtain ⟨fd, hf⟩ := F.f_marks_tuple
  refine ⟨⟨_, fd, ["marks"], F.g_marks_tuple, hf.kp, hf.bindsN (fun _ _ _ _ _ _ us hl => match us, hl with | [_], _ => rfl), fn_mk (k := 1) noO hf sc_marks_tuple (fun cdv A outer s H E hr hx tk hp => ?_)⟩⟩
  exact (dss_cons (ds_expr (de_call (h_need_marks F) hr hx (da_cons (de_oz (de_callB cd_all (da_cons (de_ob (dlc_0 [("mark", 1)] sc_marks_tuple.nd (di_list (de_var 0)).x (fun _ _ _ _ _ => (dg_name (i := 1) sc_marks_tuple.nd)) (fun _ _ _ _ _ => pts_no) (fun _ _ _ _ _ => (de_call (h_is_word F) hr passLN (da_cons (de_var 1) (da_cons (de_oz (de_gint F.i_MOST_MARK)) da_nil))))).de) da_nil) F.z_all (by decide +kernel))) da_nil)))
    (dss_cons (ds_expr (de_call (h_need_marks F) hr hx (da_cons (de_oz (de_and (de_cmp od_le (de_ob (de_callBS cs_len (da_cons (de_zb (de_var 0)) da_nil) F.z_len (by decide +kernel))) (de_ob (de_gint F.i_MOST_MARKS))) (de_one (de_cmp (od_eq hr.units) (de_ob (de_lenSet (de_zb (de_var 0)) F.z_len F.z_set)) (de_ob (de_callBS cs_len (da_cons (de_zb (de_var 0)) da_nil) F.z_len (by decide +kernel))))))) da_nil)))
    (dss_one (ds_ret (de_oz (de_callTS cs_tup (da_cons (de_ob (de_callBS cs_sort (da_cons (de_zb (de_var 0)) da_nil) F.z_sorted (by decide +kernel))) da_nil) F.z_tuple (by decide +kernel)))))))

theorem sc_Shelf_put : FnScope ["self", "name", "letter", "marks", "box"] ["self", "name", "letter", "marks"] (defScope (inClass (topS 70) 8)) := ⟨rfl, rfl, rfl, by decide +kernel, rfl, by decide +kernel, by decide +kernel⟩
def b_Shelf_put : SD := (sSeq (sSet 4 (eMeth "Shelf" "box" M_Shelf_box (eVar 0) (aCons (eVar 1) aNil)))
    (sSeq (sExpr (eCall M_need_letter (aCons (eVar 2) aNil)))
    (sRet (e2S ixS (eMeth "Box" "add_all" M_Box_add_all (eVar 4) (aCons (eN mkL (aCons (eN mkT (aCons (eVar 2) (aCons (eCall M_marks_tuple (aCons (eVar 3) aNil)) aNil))) aNil)) aNil)) (eC (.int 0))))))
def M_Shelf_put : FD := fnM 4 5 b_Shelf_put
theorem h_Shelf_put (F : Fx K w mg) : HasM P w K mg base T "Shelf" "put" (4) M_Shelf_put := by
  obtain ⟨fd, hf⟩ := F.f_Shelf_put
  refine ⟨F.c_Shelf, ⟨_, fd, ["self", "name", "letter", "marks"], F.m_Shelf_put, hf.bindsN (fun _ _ _ _ _ _ us hl => match us, hl with | [_, _, _, _], _ => rfl), fn_mk (k := 3) noO hf sc_Shelf_put (fun cdv A outer s H E hr hx tk hp => ?_)⟩⟩
  exact (dss_cons (ds_set (i := 4) sc_Shelf_put.nd (de_meth (h_Shelf_box F) hr hx (de_var 0) (da_cons (de_var 1) da_nil)))
    (dss_cons (ds_expr (de_call (h_need_letter F) hr hx (da_cons (de_var 2) da_nil)))
    (dss_one (ds_ret (de_ixS hr.units (de_zb (de_meth (h_Box_add_all F) hr hx (de_var 4) (da_cons (de_oz (de_lst (da_cons (de_oz (de_tup (da_cons (de_var 2) (da_cons (de_call (h_marks_tuple F) hr hx (da_cons (de_var 3) da_nil)) da_nil)))) da_nil))) da_nil))) (de_ob de_int))))))

theorem sc_Shelf_numbers : FnScope ["self", "name"] ["self", "name"] (defScope (inClass (topS 70) 9)) := ⟨rfl, rfl, rfl, by decide +kernel, rfl, by decide +kernel, by decide +kernel⟩
def b_Shelf_numbers : SD := (sRet (eNS sortS3 (aCons (eFld ["Box"] "entries" (eMeth "Shelf" "box" M_Shelf_box (eVar 0) (aCons (eVar 1) aNil))) aNil)))
def M_Shelf_numbers : FD := fnM 2 2 b_Shelf_numbers
theorem h_Shelf_numbers (F : Fx K w mg) : HasMO P w K mg base T "Shelf" "numbers" (3) M_Shelf_numbers := by
  obtain ⟨fd, hf⟩ := F.f_Shelf_numbers
  refine ⟨F.c_Shelf, ⟨_, fd, ["self", "name"], F.m_Shelf_numbers, hf.bindsN (fun _ _ _ _ _ _ us hl => match us, hl with | [_, _], _ => rfl), fn_mkO (k := 2) hf sc_Shelf_numbers (fun cdv A outer s H E hr hx tk hp => ?_)⟩⟩
  exact (dssO_ret (de_callBS cs_sort (da_cons (de_zb (de_fld F.fl_entries (de_meth (h_Shelf_box F) hr hx (de_var 0) (da_cons (de_var 1) da_nil)))) da_nil) F.z_sorted (by decide +kernel)))

theorem sc__law_cell : FnScope ["script", "k"] ["script", "k"] (defScope (topS 74)) := ⟨rfl, rfl, rfl, by decide +kernel, rfl, by decide +kernel, by decide +kernel⟩
def b__law_cell : SD := (sSeq (sIf (tB1 (e2 eqD (eVar 0) (eN mkL aNil))) (sRet (e2 mulD (eVar 1) (eC (.int 7919)))) sNext)
    (sRet (e2 addDT (e2S ixS (eVar 0) (e2 modI (eVar 1) (eNS lenS (aCons (eVar 0) aNil)))) (e2 mulD (e2 fdivI (eVar 1) (eNS lenS (aCons (eVar 0) aNil))) (eC (.int 104729))))))
def M__law_cell : FD := fnM 2 2 b__law_cell
theorem h__law_cell (F : Fx K w mg) : Has P w K mg base T "_law_cell" (1) M__law_cell := by
  obtain ⟨fd, hf⟩ := F.f__law_cell
  refine ⟨⟨_, fd, ["script", "k"], F.g__law_cell, hf.kp, hf.bindsN (fun _ _ _ _ _ _ us hl => match us, hl with | [_, _], _ => rfl), fn_mk (k := 0) noO hf sc__law_cell (fun cdv A outer s H E hr hx tk hp => ?_)⟩⟩
  exact (dss_cons (ds_if (dt_cmp (od_eq hr.units) (de_zb (de_var 0)) (de_ob (de_lst da_nil))) (dss_one (ds_ret (de_oz (de_bin od_mul (de_zb (de_var 1)) (de_ob de_int))))) dss_nil)
    (dss_one (ds_ret (de_oz (de_bin od_addA (de_zb (de_ixS hr.units (de_zb (de_var 0)) (de_ob (de_bin od_mod (de_zb (de_var 1)) (de_ob (de_callBS cs_len (da_cons (de_zb (de_var 0)) da_nil) F.z_len (by decide +kernel))))))) (de_ob (de_bin od_mul (de_ob (de_bin od_fdiv (de_zb (de_var 1)) (de_ob (de_callBS cs_len (da_cons (de_zb (de_var 0)) da_nil) F.z_len (by decide +kernel))))) (de_ob de_int))))))))

theorem sc__law_word : FnScope ["e", "flags", "words", "flag"] ["e"] (defScope (topS 76)) := ⟨rfl, rfl, rfl, by decide +kernel, rfl, by decide +kernel, by decide +kernel⟩
def b__law_word (a : Addr) (cl : Str) : SD := (sSeq (sSet 1 (eN mkL (aCons (eIsE 0 a (cl == "BadLetter")) (aCons (eIsE 0 a (cl == "BadSet")) (aCons (eIsE 0 a (cl == "BadBox")) (aCons (eIsE 0 a (cl == "BadMarks")) aNil))))))
    (sSeq (sSet 1 (e2 addDT (eVar 1) (eN mkL (aCons (eIsE 0 a (cl == "BadNumber")) (aCons (eIsE 0 a (cl == "BadPlace")) (aCons (eIsE 0 a (cl == "Gone")) (aCons (eIsE 0 a (cl == "BadQuery")) aNil)))))))
    (sSeq (sSet 1 (e2 addDT (eVar 1) (eN mkL (aCons (eIsE 0 a (cl == "BadText")) aNil))))
    (sSeq (sSet 2 (eN mkL (aCons (eC (.str "BadLetter")) (aCons (eC (.str "BadSet")) (aCons (eC (.str "BadBox")) (aCons (eC (.str "BadMarks")) (aCons (eC (.str "BadNumber")) (aCons (eC (.str "BadPlace")) (aCons (eC (.str "Gone")) (aCons (eC (.str "BadQuery")) (aCons (eC (.str "BadText")) aNil)))))))))))
    (sSeq (sIf (tOrD (tB1 (e2 neD (eN sumD (aCons (eLc0 (iLst (eVar 1)) (gNm 3) tYesD (eN intD (aCons (eVar 3) aNil)) [3]) aNil)) (eC (.int 1)))) (tNotD (tB1 (eIsE 0 a true)))) (sRet (eN mkT (aCons (eC (.str "refused")) (aCons (eC (.str "other")) aNil)))) sNext)
    (sRet (eN mkT (aCons (eC (.str "refused")) (aCons (e2S ixS (eVar 2) (eMt "list" indexD (eVar 1) (aCons (eC (.bl true)) aNil))) aNil)))))))))
def M__law_word (a : Addr) (cl : Str) : FD := fnM 1 4 (b__law_word a cl)
theorem h_word (F : Fx K w mg) {cl : Str} (hcl : cl ∈ errs) {a : Addr} {oe : Obj} (hz : L2N.Zn (clsV K cl) none oe) (hf : ∃ vs, oe.data = .fields vs) : Hot P w K mg base T "_law_word" 1 (a, oe) (M__law_word a cl) := by
  obtain ⟨fd, hfd⟩ := F.f__law_word
  refine hot_mk (k := 0) hfd sc__law_word F.g__law_word (hfd.bindsN (fun _ _ _ _ _ _ us hl => match us, hl with | [_], _ => rfl)) (fun cdv A outer s H hot hr => ?_)
  have hc : L2H.HotC (cxW P w K mg base T ["e", "flags", "words", "flag"] "_law_word" (defScope (topS 76)) (He.ga K "_law_word") cdv A outer s H (a, oe)).X := ⟨(a, oe), hot, List.mem_cons_self⟩
  exact (dss_cons (ds_set (i := 1) sc__law_word.nd (de_oz (de_lst (da_cons (de_oz (de_isE (F.wf.c cl hcl) hz.zc hf List.mem_cons_self F.z_isinstance (pe_glob (v := .ref (He.ga K "BadLetter")) rfl F.g_BadLetter rfl) (fun _ h => h) (F.wf.k cl hcl "BadLetter" (by decide +kernel)))) (da_cons (de_oz (de_isE (F.wf.c cl hcl) hz.zc hf List.mem_cons_self F.z_isinstance (pe_glob (v := .ref (He.ga K "BadSet")) rfl F.g_BadSet rfl) (fun _ h => h) (F.wf.k cl hcl "BadSet" (by decide +kernel)))) (da_cons (de_oz (de_isE (F.wf.c cl hcl) hz.zc hf List.mem_cons_self F.z_isinstance (pe_glob (v := .ref (He.ga K "BadBox")) rfl F.g_BadBox rfl) (fun _ h => h) (F.wf.k cl hcl "BadBox" (by decide +kernel)))) (da_cons (de_oz (de_isE (F.wf.c cl hcl) hz.zc hf List.mem_cons_self F.z_isinstance (pe_glob (v := .ref (He.ga K "BadMarks")) rfl F.g_BadMarks rfl) (fun _ h => h) (F.wf.k cl hcl "BadMarks" (by decide +kernel)))) da_nil)))))))
    (dss_cons (ds_set (i := 1) sc__law_word.nd (de_oz (de_bin od_addA (de_zb (de_var 1)) (de_ob (de_lst (da_cons (de_oz (de_isE (F.wf.c cl hcl) hz.zc hf List.mem_cons_self F.z_isinstance (pe_glob (v := .ref (He.ga K "BadNumber")) rfl F.g_BadNumber rfl) (fun _ h => h) (F.wf.k cl hcl "BadNumber" (by decide +kernel)))) (da_cons (de_oz (de_isE (F.wf.c cl hcl) hz.zc hf List.mem_cons_self F.z_isinstance (pe_glob (v := .ref (He.ga K "BadPlace")) rfl F.g_BadPlace rfl) (fun _ h => h) (F.wf.k cl hcl "BadPlace" (by decide +kernel)))) (da_cons (de_oz (de_isE (F.wf.c cl hcl) hz.zc hf List.mem_cons_self F.z_isinstance (pe_glob (v := .ref (He.ga K "Gone")) rfl F.g_Gone rfl) (fun _ h => h) (F.wf.k cl hcl "Gone" (by decide +kernel)))) (da_cons (de_oz (de_isE (F.wf.c cl hcl) hz.zc hf List.mem_cons_self F.z_isinstance (pe_glob (v := .ref (He.ga K "BadQuery")) rfl F.g_BadQuery rfl) (fun _ h => h) (F.wf.k cl hcl "BadQuery" (by decide +kernel)))) da_nil)))))))))
    (dss_cons (ds_set (i := 1) sc__law_word.nd (de_oz (de_bin od_addA (de_zb (de_var 1)) (de_ob (de_lst (da_cons (de_oz (de_isE (F.wf.c cl hcl) hz.zc hf List.mem_cons_self F.z_isinstance (pe_glob (v := .ref (He.ga K "BadText")) rfl F.g_BadText rfl) (fun _ h => h) (F.wf.k cl hcl "BadText" (by decide +kernel)))) da_nil))))))
    (dss_cons (ds_set (i := 2) sc__law_word.nd (de_oz (de_lst (da_cons (de_oz de_str) (da_cons (de_oz de_str) (da_cons (de_oz de_str) (da_cons (de_oz de_str) (da_cons (de_oz de_str) (da_cons (de_oz de_str) (da_cons (de_oz de_str) (da_cons (de_oz de_str) (da_cons (de_oz de_str) da_nil))))))))))))
    (dss_cons (ds_if (dw_or (dt_cmp (od_ne hr.units) (de_ob (de_callB (cd_sumH hc) (da_cons (de_ob (dlc_H [("flag", 3)] sc__law_word.nd hc (de_zb (de_var 1)) (fun _ _ _ _ _ => (dg_name (i := 3) sc__law_word.nd)) (fun _ _ _ _ _ => pts_no) (fun _ _ _ _ _ => (de_oz (de_callT cd_int (da_cons (de_zb (de_var 3)) da_nil) F.z_int (by decide +kernel)))))) da_nil) F.z_sum (by decide +kernel))) (de_ob de_int)) (dw_or1 (dt_not (dt_val (de_isE (F.wf.c cl hcl) hz.zc hf List.mem_cons_self F.z_isinstance (pe_bltn (x := "ValueError") (v := .ty "ValueError") (u := .type "ValueError") rfl F.z_ValueError (by decide +kernel) rfl) (fun _ h => h) (F.wf.v cl hcl)))))).dt (dss_one (ds_ret (de_oz (de_tup (da_cons (de_oz de_str) (da_cons (de_oz de_str) da_nil)))))) dss_nil)
    (dss_one (ds_ret (de_oz (de_tup (da_cons (de_oz de_str) (da_cons (de_ixS hr.units (de_zb (de_var 2)) (de_ob (de_mt PySem.F.plainAttrs_list PySem.F.slot_list_index PySem.F.type_list_index md_index (de_zb (de_var 1)) (da_cons (de_ob de_bl) da_nil)))) da_nil)))))))))))
theorem v_word : ∀ cl ∈ errs, ∀ b st, M__law_word b cl [.exc b] st = .ok (wordD cl) st := by
  intro cl hcl b st
  have h0 : b__law_word b cl [some (.exc b), none, none, none] st = .ok (.rt (wordD cl)) st := by
    refine seqE (τ' := [some (.exc b), some (.lst [.bl (cl == "BadLetter"), .bl (cl == "BadSet"), .bl (cl == "BadBox"), .bl (cl == "BadMarks")]), none, none]) (by simp only [sSet, e2, eVar, eC, eN, aCons, aNil, isEok, R.bind, M.ret, M.opt]; rfl) ?_
    refine seqE (τ' := [some (.exc b), some (.lst [.bl (cl == "BadLetter"), .bl (cl == "BadSet"), .bl (cl == "BadBox"), .bl (cl == "BadMarks"), .bl (cl == "BadNumber"), .bl (cl == "BadPlace"), .bl (cl == "Gone"), .bl (cl == "BadQuery")]), none, none]) (by simp only [sSet, e2, eVar, eC, eN, aCons, aNil, isEok, R.bind, M.ret, M.opt]; rfl) ?_
    refine seqE (τ' := [some (.exc b), some (.lst [.bl (cl == "BadLetter"), .bl (cl == "BadSet"), .bl (cl == "BadBox"), .bl (cl == "BadMarks"), .bl (cl == "BadNumber"), .bl (cl == "BadPlace"), .bl (cl == "Gone"), .bl (cl == "BadQuery"), .bl (cl == "BadText")]), none, none]) (by simp only [sSet, e2, eVar, eC, eN, aCons, aNil, isEok, R.bind, M.ret, M.opt]; rfl) ?_
    refine seqE (τ' := [some (.exc b), some (.lst [.bl (cl == "BadLetter"), .bl (cl == "BadSet"), .bl (cl == "BadBox"), .bl (cl == "BadMarks"), .bl (cl == "BadNumber"), .bl (cl == "BadPlace"), .bl (cl == "Gone"), .bl (cl == "BadQuery"), .bl (cl == "BadText")]), some (.lst [.str "BadLetter", .str "BadSet", .str "BadBox", .str "BadMarks", .str "BadNumber", .str "BadPlace", .str "Gone", .str "BadQuery", .str "BadText"]), none]) (by simp only [sSet, e2, eVar, eC, eN, aCons, aNil, isEok, R.bind, M.ret, M.opt]; rfl) ?_
    simp only [errs, List.mem_cons, List.not_mem_nil, or_false] at hcl
    rcases hcl with rfl | rfl | rfl | rfl | rfl | rfl | rfl | rfl | rfl <;> (simp only [sSeq, sIf, tOrD, notIsE]; kernel_rfl)
  show (b__law_word b cl [some (.exc b), none, none, none] st).bind _ = _
  rw [h0]
  rfl

theorem sc__law_told : FnScope ["deed", "e"] ["deed"] (defScope (topS 77)) := ⟨rfl, rfl, rfl, by decide +kernel, rfl, by decide +kernel, by decide +kernel⟩
theorem h_told (F : Fx K w mg) : Told P w K mg base T errs "_law_told" 1 := by
  obtain ⟨fd, hfd⟩ := F.f__law_told
  exact told_mk (Fw := M__law_word) hfd F.g__law_told (hfd.bindsN (fun _ _ _ _ _ _ us hl => match us, hl with | [_], _ => rfl)) sc__law_told (.inl rfl) rfl rfl F.g_ShelfError rfl F.x_ShelfError (fun cl hcl a oe hz hf => h_word F hcl hz hf) v_word

theorem sc_need_queries2 : FnScope ["good"] ["good"] (defScope (topS 47)) := ⟨rfl, rfl, rfl, by decide +kernel, rfl, by decide +kernel, by decide +kernel⟩
def b_need_queries2 : SD := (sIf (tNotD (tB1 (eVar 0))) (sRaise "BadQuery") sNext)
def M_need_queries2 : FD := fnM 1 1 b_need_queries2
theorem h_need_queries2 (F : Fx K w mg) : Has P w K mg base T "need_queries2" (1) M_need_queries2 := by
  obtain ⟨fd, hf⟩ := F.f_need_queries2
  refine ⟨⟨_, fd, ["good"], F.g_need_queries2, hf.kp, hf.bindsN (fun _ _ _ _ _ _ us hl => match us, hl with | [_], _ => rfl), fn_mk (k := 0) noO hf sc_need_queries2 (fun cdv A outer s H E hr hx tk hp => ?_)⟩⟩
  exact (dss_one (ds_if (dt_not (dt_val (de_var 0))) (dss_one (ds_raise F.e_BadQuery tk)) dss_nil))

theorem sc_is_text : FnScope ["thing"] ["thing"] (defScope (topS 49)) := ⟨rfl, rfl, rfl, by decide +kernel, rfl, by decide +kernel, by decide +kernel⟩
def b_is_text : SD := (sRet (eAndD (e1 (isiD "str") (eVar 0)) (eAndD (e2 leD (eNS lenS (aCons (eVar 0) aNil)) (eC (.int 20))) (eAndD (eCall M_are_signs (aCons (eVar 0) aNil)) (e2S (inS2 true) (eC (.str "\"")) (eVar 0))))))
def M_is_text : FD := fnM 1 1 b_is_text
theorem h_is_text (F : Fx K w mg) : Has P w K mg base T "is_text" (2) M_is_text := by
  obtain ⟨fd, hf⟩ := F.f_is_text
  refine ⟨⟨_, fd, ["thing"], F.g_is_text, hf.kp, hf.bindsN (fun _ _ _ _ _ _ us hl => match us, hl with | [_], _ => rfl), fn_mk (k := 1) noO hf sc_is_text (fun cdv A outer s H E hr hx tk hp => ?_)⟩⟩
  exact (dss_one (ds_ret (de_oz (de_and (de_isi (de_zb (de_var 0)) F.z_isinstance F.z_str (by decide +kernel)) (de_and (de_cmp od_le (de_ob (de_callBS cs_len (da_cons (de_zb (de_var 0)) da_nil) F.z_len (by decide +kernel))) (de_ob (de_gint F.i_MOST_TEXT))) (de_and (de_call (h_are_signs F) hr hx (da_cons (de_var 0) da_nil)) (de_one (de_notInS hr.units (de_ob de_str) (de_zb (de_var 0))))))))))

theorem sc_need_sets : FnScope ["good"] ["good"] (defScope (topS 30)) := ⟨rfl, rfl, rfl, by decide +kernel, rfl, by decide +kernel, by decide +kernel⟩
def b_need_sets : SD := (sIf (tNotD (tB1 (eVar 0))) (sRaise "BadSet") sNext)
def M_need_sets : FD := fnM 1 1 b_need_sets
theorem h_need_sets (F : Fx K w mg) : Has P w K mg base T "need_sets" (1) M_need_sets := by
  obtain ⟨fd, hf⟩ := F.f_need_sets
  refine ⟨⟨_, fd, ["good"], F.g_need_sets, hf.kp, hf.bindsN (fun _ _ _ _ _ _ us hl => match us, hl with | [_], _ => rfl), fn_mk (k := 0) noO hf sc_need_sets (fun cdv A outer s H E hr hx tk hp => ?_)⟩⟩
  exact (dss_one (ds_if (dt_not (dt_val (de_var 0))) (dss_one (ds_raise F.e_BadSet tk)) dss_nil))

theorem sc_number_of : FnScope ["text", "last", "sign"] ["text", "last"] (defScope (topS 32)) := ⟨rfl, rfl, rfl, by decide +kernel, rfl, by decide +kernel, by decide +kernel⟩
def b_number_of : SD := (sSeq (sIf (tB1 (e2 eqD (eVar 0) (eC (.str "*")))) (sRet (eVar 1)) sNext)
    (sSeq (sExpr (eCall M_need_sets (aCons (eAndD (eCh leD leD (eC (.int 1)) (eNS lenS (aCons (eVar 0) aNil)) (eC (.int 4))) (eAndD (eN allD (aCons (eLc0 (iStrD (eVar 0)) (gNm 2) tYesD (e2S (inS2 false) (eVar 2) (eC (.str "0123456789"))) [2]) aNil)) (e2 neD (e2S ixS (eVar 0) (eC (.int 0))) (eC (.str "0"))))) aNil)))
    (sRet (eN intD (aCons (eVar 0) aNil)))))
def M_number_of : FD := fnM 2 3 b_number_of
theorem h_number_of (F : Fx K w mg) : Has P w K mg base T "number_of" (2) M_number_of := by
  obtain ⟨fd, hf⟩ := F.f_number_of
  refine ⟨⟨_, fd, ["text", "last"], F.g_number_of, hf.kp, hf.bindsN (fun _ _ _ _ _ _ us hl => match us, hl with | [_, _], _ => rfl), fn_mk (k := 1) noO hf sc_number_of (fun cdv A outer s H E hr hx tk hp => ?_)⟩⟩
  exact (dss_cons (ds_if (dt_cmp (od_eq hr.units) (de_zb (de_var 0)) (de_ob de_str)) (dss_one (ds_ret (de_var 1))) dss_nil)
    (dss_cons (ds_expr (de_call (h_need_sets F) hr hx (da_cons (de_oz (de_and (de_chain od_le od_le (de_ob de_int) (de_ob (de_callBS cs_len (da_cons (de_zb (de_var 0)) da_nil) F.z_len (by decide +kernel))) (de_ob (de_gint F.i_MOST_FIGURES))) (de_and (de_callB cd_all (da_cons (de_ob (dlc_0 [("sign", 2)] sc_number_of.nd (di_str (de_var 0)).x (fun _ _ _ _ _ => (dg_name (i := 2) sc_number_of.nd)) (fun _ _ _ _ _ => pts_no) (fun _ _ _ _ _ => (de_oz (de_inS hr.units (de_zb (de_var 2)) (de_ob (de_gstr F.s_FIGURES)))))).de) da_nil) F.z_all (by decide +kernel)) (de_one (de_cmp (od_ne hr.units) (de_zb (de_ixS hr.units (de_zb (de_var 0)) (de_ob de_int))) (de_ob de_str)))))) da_nil)))
    (dss_one (ds_ret (de_oz (de_callT cd_int (da_cons (de_zb (de_var 0)) da_nil) F.z_int (by decide +kernel)))))))

theorem sc_ends_of : FnScope ["part", "last", "ends", "one"] ["part", "last"] (defScope (topS 33)) := ⟨rfl, rfl, rfl, by decide +kernel, rfl, by decide +kernel, by decide +kernel⟩
def b_ends_of : SD := (sSeq (sSet 2 (eLc (iLst (eMt "str" splitD (eVar 0) (aCons (eC (.str ":")) aNil))) (gNm 3) tYesD (eCall M_number_of (aCons (eVar 3) (aCons (eVar 1) aNil))) [3]))
    (sSeq (sExpr (eCall M_need_sets (aCons (e2 leD (eNS lenS (aCons (eVar 2) aNil)) (eC (.int 2))) aNil)))
    (sRet (eN mkT (aCons (eN minD (aCons (eVar 2) aNil)) (aCons (eN maxD (aCons (eVar 2) aNil)) aNil))))))
def M_ends_of : FD := fnM 2 4 b_ends_of
theorem h_ends_of (F : Fx K w mg) : Has P w K mg base T "ends_of" (3) M_ends_of := by
  obtain ⟨fd, hf⟩ := F.f_ends_of
  refine ⟨⟨_, fd, ["part", "last"], F.g_ends_of, hf.kp, hf.bindsN (fun _ _ _ _ _ _ us hl => match us, hl with | [_, _], _ => rfl), fn_mk (k := 2) noO hf sc_ends_of (fun cdv A outer s H E hr hx tk hp => ?_)⟩⟩
  exact (dss_cons (ds_setLc (i := 2) sc_ends_of.nd (dlc_X [("one", 3)] sc_ends_of.nd tk (di_list (de_oz (de_mt PySem.F.plainAttrs_str PySem.F.slot_str_split PySem.F.type_str_split md_split (de_zb (de_var 0)) (da_cons (de_ob de_str) da_nil)))).x (fun _ _ _ _ _ => (dg_name (i := 3) sc_ends_of.nd)) (fun _ _ _ _ _ => pts_no) (fun _ _ _ _ _ _ => (de_call (h_number_of F) hr passB (da_cons (de_var 3) (da_cons (de_var 1) da_nil))))) (sw_true rfl rfl rfl (by decide +kernel)))
    (dss_cons (ds_expr (de_call (h_need_sets F) hr hx (da_cons (de_oz (de_cmp od_le (de_ob (de_callBS cs_len (da_cons (de_zb (de_var 2)) da_nil) F.z_len (by decide +kernel))) (de_ob de_int))) da_nil)))
    (dss_one (ds_ret (de_oz (de_tup (da_cons (de_oz (de_callB cd_min (da_cons (de_zb (de_var 2)) da_nil) F.z_min (by decide +kernel))) (da_cons (de_oz (de_callB cd_max (da_cons (de_zb (de_var 2)) da_nil) F.z_max (by decide +kernel))) da_nil))))))))

theorem sc_set_of : FnScope ["text", "last", "runs", "found", "low", "high", "number", "part"] ["text", "last"] (defScope (topS 34)) := ⟨rfl, rfl, rfl, by decide +kernel, rfl, by decide +kernel, by decide +kernel⟩
def b_set_of : SD := (sSeq (sSet 2 (eIf (tB1 (e2 neD (eVar 0) (eC (.str "")))) (eLc (iLst (eMt "str" splitD (eVar 0) (aCons (eC (.str ",")) aNil))) (gNm 7) tYesD (eCall M_ends_of (aCons (eVar 7) (aCons (eVar 1) aNil))) [7]) (eN mkL aNil)))
    (sSeq (sSet 3 (eSto (eC (.dct []))))
    (sSeq (sFor (iLst (eVar 2)) (gTp 2 (gsCons (gNm 4) (gsCons (gNm 5) gsNil))) (sFor (iN range2D (aCons (eN maxD (aCons (eC (.int 1)) (aCons (eVar 4) aNil))) (aCons (e2 addDT (eN minD (aCons (eVar 5) (aCons (eVar 1) aNil))) (eC (.int 1))) aNil))) (gNm 6) (sSetS (eVar 3) (eVar 6) (eC (.bl true)))))
    (sRet (eNS sortS3 (aCons (eVar 3) aNil))))))
def M_set_of : FD := fnM 2 8 b_set_of
theorem h_set_of (F : Fx K w mg) : Has P w K mg base T "set_of" (4) M_set_of := by
  obtain ⟨fd, hf⟩ := F.f_set_of
  refine ⟨⟨_, fd, ["text", "last"], F.g_set_of, hf.kp, hf.bindsN (fun _ _ _ _ _ _ us hl => match us, hl with | [_, _], _ => rfl), fn_mk (k := 3) noO hf sc_set_of (fun cdv A outer s H E hr hx tk hp => ?_)⟩⟩
  exact (dss_cons (ds_set (i := 2) sc_set_of.nd (de_oz (de_if (dt_cmp (od_ne hr.units) (de_zb (de_var 0)) (de_ob de_str)) (dlc_X [("part", 7)] sc_set_of.nd tk (di_list (de_oz (de_mt PySem.F.plainAttrs_str PySem.F.slot_str_split PySem.F.type_str_split md_split (de_zb (de_var 0)) (da_cons (de_ob de_str) da_nil)))).x (fun _ _ _ _ _ => (dg_name (i := 7) sc_set_of.nd)) (fun _ _ _ _ _ => pts_no) (fun _ _ _ _ _ _ => (de_call (h_ends_of F) hr passB (da_cons (de_var 7) (da_cons (de_var 1) da_nil))))).de (de_lst da_nil))))
    (dss_cons (ds_set (i := 3) sc_set_of.nd (de_sto de_dict0))
    (dss_cons (ds_for hp (di_list (de_var 2)) (dg_tup (n := 2) (dgs_cons (dg_name (i := 4) sc_set_of.nd) (dgs_cons (dg_name (i := 5) sc_set_of.nd) dgs_nil))) (dss_one (ds_for hp (di_range2 (da_cons (de_ob (de_callB cd_max (da_cons (de_ob de_int) (da_cons (de_zb (de_var 4)) da_nil)) F.z_max (by decide +kernel))) (da_cons (de_ob (de_bin od_addA (de_ob (de_callB cd_min (da_cons (de_zb (de_var 5)) (da_cons (de_zb (de_var 1)) da_nil)) F.z_min (by decide +kernel))) (de_ob de_int))) da_nil)) F.z_range) (dg_name (i := 6) sc_set_of.nd) (dss_one (ds_setS hr.units (de_zb (de_var 3)) (de_zb (de_var 6)) (de_oz de_bl))))))
    (dss_one (ds_ret (de_oz (de_callBS cs_sort (da_cons (de_zb (de_var 3)) da_nil) F.z_sorted (by decide +kernel))))))))

theorem sc_is_set : FnScope ["thing", "good"] ["thing"] (defScope (topS 50)) := ⟨rfl, rfl, rfl, by decide +kernel, rfl, by decide +kernel, by decide +kernel⟩
def b_is_set : SD := (sSeq (sIf (tOrD (tNotD (tB1 (e1 (isiD "str") (eVar 0)))) (tB1 (e2 eqD (eVar 0) (eC (.str ""))))) (sRet (eC (.bl false))) sNext)
    (sSeq (sSet 1 (eC (.bl true)))
    (sSeq (sTryC M_set_of (aCons (eVar 0) (aCons (eC (.int 0)) aNil)) "BadSet" (sSet 1 (eC (.bl false))))
    (sRet (eVar 1)))))
def M_is_set : FD := fnM 1 2 b_is_set
theorem h_is_set (F : Fx K w mg) : Has P w K mg base T "is_set" (5) M_is_set := by
  obtain ⟨fd, hf⟩ := F.f_is_set
  refine ⟨⟨_, fd, ["thing"], F.g_is_set, hf.kp, hf.bindsN (fun _ _ _ _ _ _ us hl => match us, hl with | [_], _ => rfl), fn_mk (k := 4) noO hf sc_is_set (fun cdv A outer s H E hr hx tk hp => ?_)⟩⟩
  exact (dss_cons (ds_if (dw_or (dt_not (dt_val (de_isi (de_zb (de_var 0)) F.z_isinstance F.z_str (by decide +kernel)))) (dw_or1 (dt_cmp (od_eq hr.units) (de_zb (de_var 0)) (de_ob de_str)))).dt (dss_one (ds_ret (de_oz de_bl))) dss_nil)
    (dss_cons (ds_set (i := 1) sc_is_set.nd (de_oz de_bl))
    (dss_cons (ds_tryCall (h_set_of F) hr F.g_BadSet F.xm_BadSet (fun _ _ => (da_cons (de_var 0) (da_cons (de_oz de_int) da_nil))) (fun _ _ => (dss_one (ds_set (i := 1) sc_is_set.nd (de_oz de_bl)))))
    (dss_one (ds_ret (de_var 1))))))

theorem sc_is_step : FnScope ["thing"] ["thing"] (defScope (topS 51)) := ⟨rfl, rfl, rfl, by decide +kernel, rfl, by decide +kernel, by decide +kernel⟩
def b_is_step : SD := (sRet (eAndD (e1 (isiD "int") (eVar 0)) (eAndD (e1 notD (e1 (isiD "bool") (eVar 0))) (eCh leD leD (eC (.int 0)) (eVar 0) (eC (.int 9999))))))
def M_is_step : FD := fnM 1 1 b_is_step
theorem h_is_step (F : Fx K w mg) : Has P w K mg base T "is_step" (1) M_is_step := by
  obtain ⟨fd, hf⟩ := F.f_is_step
  refine ⟨⟨_, fd, ["thing"], F.g_is_step, hf.kp, hf.bindsN (fun _ _ _ _ _ _ us hl => match us, hl with | [_], _ => rfl), fn_mk (k := 0) noO hf sc_is_step (fun cdv A outer s H E hr hx tk hp => ?_)⟩⟩
  exact (dss_one (ds_ret (de_oz (de_and (de_isi (de_zb (de_var 0)) F.z_isinstance F.z_int (by decide +kernel)) (de_and (de_not (de_isi (de_zb (de_var 0)) F.z_isinstance F.z_bool (by decide +kernel))) (de_one (de_chain od_le od_le (de_ob de_int) (de_zb (de_var 0)) (de_ob (de_gint F.i_MOST_NUMBER)))))))))

theorem sc_need_deep : FnScope ["query", "deep", "word", "one"] ["query", "deep"] (defScope (topS 52)) := ⟨rfl, rfl, rfl, by decide +kernel, rfl, by decide +kernel, by decide +kernel⟩
def b_need_deep (M : FD) : SD := (sSeq (sExpr (eCall M_need_queries2 (aCons (eAndD (e1 (isiD "tuple") (eVar 0)) (eAndD (e2 gtI (eNS lenS (aCons (eVar 0) aNil)) (eC (.int 0))) (eAndD (e1 (isiD "str") (e2S ixS (eVar 0) (eC (.int 0)))) (e1 (inT tb_LENGTHS) (e2S ixS (eVar 0) (eC (.int 0))))))) aNil)))
    (sSeq (sExpr (eCall M_need_queries2 (aCons (eAndD (e2 eqD (eNS lenS (aCons (eVar 0) aNil)) (e1 (ixT tb_LENGTHS) (e2S ixS (eVar 0) (eC (.int 0))))) (e2 ltD (eVar 1) (eC (.int 8)))) aNil)))
    (sSeq (sSet 2 (e2S ixS (eVar 0) (eC (.int 0))))
    (sIf (tB1 (e2 eqD (eVar 2) (eC (.str "mark")))) (sExpr (eCall M_need_queries2 (aCons (eCall M_is_word (aCons (e2S ixS (eVar 0) (eC (.int 1))) (aCons (eC (.int 10)) aNil))) aNil))) (sIf (tB1 (e2 eqD (eVar 2) (eC (.str "head")))) (sExpr (eCall M_need_queries2 (aCons (eAndD (eCall M_is_word (aCons (e2S ixS (eVar 0) (eC (.int 1))) (aCons (eC (.int 12)) aNil))) (eCall M_is_text (aCons (e2S ixS (eVar 0) (eC (.int 2))) aNil))) aNil))) (sIf (tB1 (e2 eqD (eVar 2) (eC (.str "body")))) (sExpr (eCall M_need_queries2 (aCons (eCall M_is_text (aCons (e2S ixS (eVar 0) (eC (.int 1))) aNil)) aNil))) (sIf (tB1 (e2 eqD (eVar 2) (eC (.str "numbers")))) (sExpr (eCall M_need_queries2 (aCons (eCall M_is_set (aCons (e2S ixS (eVar 0) (eC (.int 1))) aNil)) aNil))) (sIf (tB1 (e2 eqD (eVar 2) (eC (.str "newer")))) (sExpr (eCall M_need_queries2 (aCons (eCall M_is_step (aCons (e2S ixS (eVar 0) (eC (.int 1))) aNil)) aNil))) (sFor (iTpl (eSl (eVar 0) (oSome (eC (.int 1))) oNone)) (gNm 3) (sExpr (eCall (M) (aCons (eVar 3) (aCons (e2 addDT (eVar 1) (eC (.int 1))) aNil)))))))))))))
def M_need_deep : Nat → FD
  | 0 => fnM 2 4 sNo
  | n + 1 => fnM 2 4 (b_need_deep (M_need_deep n))
theorem h_need_deep (F : Fx K w mg) : ∀ n : Nat, Has P w K mg base T "need_deep" (5 + n + 1) (M_need_deep n)
  | 0 => by
    obtain ⟨fd, hf⟩ := F.f_need_deep
    exact ⟨⟨_, fd, ["query", "deep"], F.g_need_deep, hf.kp, hf.bindsN (fun _ _ _ _ _ _ us hl => match us, hl with | [_, _], _ => rfl), fn_mk (k := 5 + 0) noO hf sc_need_deep (fun cdv A outer s H E hr hx tk hp => dss_no)⟩⟩
  | n + 1 => by
    obtain ⟨fd, hf⟩ := F.f_need_deep
    refine ⟨⟨_, fd, ["query", "deep"], F.g_need_deep, hf.kp, hf.bindsN (fun _ _ _ _ _ _ us hl => match us, hl with | [_, _], _ => rfl), fn_mk (k := 5 + n + 1) noO hf sc_need_deep (fun cdv A outer s H E hr hx tk hp => ?_)⟩⟩
    exact (dss_cons (ds_expr (de_call (h_need_queries2 F) hr hx (da_cons (de_oz (de_and (de_isi (de_zb (de_var 0)) F.z_isinstance F.z_tuple (by decide +kernel)) (de_and (de_cmp od_gt (de_ob (de_callBS cs_len (da_cons (de_zb (de_var 0)) da_nil) F.z_len (by decide +kernel))) (de_ob de_int)) (de_and (de_isi (de_zb (de_ixS hr.units (de_zb (de_var 0)) (de_ob de_int))) F.z_isinstance F.z_str (by decide +kernel)) (de_one (de_inT F.t_LENGTHS (de_zb (de_ixS hr.units (de_zb (de_var 0)) (de_ob de_int))))))))) da_nil) (hjk := by omega)))
    (dss_cons (ds_expr (de_call (h_need_queries2 F) hr hx (da_cons (de_oz (de_and (de_cmp (od_eq hr.units) (de_ob (de_callBS cs_len (da_cons (de_zb (de_var 0)) da_nil) F.z_len (by decide +kernel))) (de_ob (de_ixT F.t_LENGTHS (de_zb (de_ixS hr.units (de_zb (de_var 0)) (de_ob de_int)))))) (de_one (de_cmp od_lt (de_zb (de_var 1)) (de_ob (de_gint F.i_MOST_WITHIN)))))) da_nil) (hjk := by omega)))
    (dss_cons (ds_set (i := 2) sc_need_deep.nd (de_ixS hr.units (de_zb (de_var 0)) (de_ob de_int)))
    (dss_one (ds_if (dt_cmp (od_eq hr.units) (de_zb (de_var 2)) (de_ob de_str)) (dss_one (ds_expr (de_call (h_need_queries2 F) hr hx (da_cons (de_call (h_is_word F) hr hx (da_cons (de_ixS hr.units (de_zb (de_var 0)) (de_ob de_int)) (da_cons (de_oz (de_gint F.i_MOST_MARK)) da_nil)) (hjk := by omega)) da_nil) (hjk := by omega)))) (dss_one (ds_if (dt_cmp (od_eq hr.units) (de_zb (de_var 2)) (de_ob de_str)) (dss_one (ds_expr (de_call (h_need_queries2 F) hr hx (da_cons (de_and (de_call (h_is_word F) hr hx (da_cons (de_ixS hr.units (de_zb (de_var 0)) (de_ob de_int)) (da_cons (de_oz (de_gint F.i_MOST_NAME)) da_nil)) (hjk := by omega)) (de_one (de_call (h_is_text F) hr hx (da_cons (de_ixS hr.units (de_zb (de_var 0)) (de_ob de_int)) da_nil) (hjk := by omega)))) da_nil) (hjk := by omega)))) (dss_one (ds_if (dt_cmp (od_eq hr.units) (de_zb (de_var 2)) (de_ob de_str)) (dss_one (ds_expr (de_call (h_need_queries2 F) hr hx (da_cons (de_call (h_is_text F) hr hx (da_cons (de_ixS hr.units (de_zb (de_var 0)) (de_ob de_int)) da_nil) (hjk := by omega)) da_nil) (hjk := by omega)))) (dss_one (ds_if (dt_cmp (od_eq hr.units) (de_zb (de_var 2)) (de_ob de_str)) (dss_one (ds_expr (de_call (h_need_queries2 F) hr hx (da_cons (de_call (h_is_set F) hr hx (da_cons (de_ixS hr.units (de_zb (de_var 0)) (de_ob de_int)) da_nil) (hjk := by omega)) da_nil) (hjk := by omega)))) (dss_one (ds_if (dt_cmp (od_eq hr.units) (de_zb (de_var 2)) (de_ob de_str)) (dss_one (ds_expr (de_call (h_need_queries2 F) hr hx (da_cons (de_call (h_is_step F) hr hx (da_cons (de_ixS hr.units (de_zb (de_var 0)) (de_ob de_int)) da_nil) (hjk := by omega)) da_nil) (hjk := by omega)))) (dss_one (ds_for hp (di_tup (de_oz (de_slice (de_zb (de_var 0)) (do_some (de_ob de_int)) do_none))) (dg_name (i := 3) sc_need_deep.nd) (dss_one (ds_expr (de_call (h_need_deep F n) hr hx (da_cons (de_var 3) (da_cons (de_oz (de_bin od_addA (de_zb (de_var 1)) (de_ob de_int))) da_nil)) (hjk := by omega)))))))))))))))))))

theorem sc_need_query : FnScope ["query"] ["query"] (defScope (topS 53)) := ⟨rfl, rfl, rfl, by decide +kernel, rfl, by decide +kernel, by decide +kernel⟩
def b_need_query : SD := (sExpr (eCall (M_need_deep 10) (aCons (eVar 0) (aCons (eC (.int 0)) aNil))))
def M_need_query : FD := fnM 1 1 b_need_query
theorem h_need_query (F : Fx K w mg) : Has P w K mg base T "need_query" (17) M_need_query := by
  obtain ⟨fd, hf⟩ := F.f_need_query
  refine ⟨⟨_, fd, ["query"], F.g_need_query, hf.kp, hf.bindsN (fun _ _ _ _ _ _ us hl => match us, hl with | [_], _ => rfl), fn_mk (k := 16) noO hf sc_need_query (fun cdv A outer s H E hr hx tk hp => ?_)⟩⟩
  exact (dss_one (ds_expr (de_call (h_need_deep F 10) hr hx (da_cons (de_var 0) (da_cons (de_oz de_int) da_nil)))))

theorem sc_need_queries : FnScope ["queries", "query"] ["queries"] (defScope (topS 60)) := ⟨rfl, rfl, rfl, by decide +kernel, rfl, by decide +kernel, by decide +kernel⟩
def b_need_queries : SD := (sSeq (sIf (tOrD (tNotD (tB1 (e1 (isiD "list") (eVar 0)))) (tB1 (e2 gtI (eNS lenS (aCons (eVar 0) aNil)) (eC (.int 12))))) (sRaise "BadQuery") sNext)
    (sFor (iLst (eVar 0)) (gNm 1) (sExpr (eCall M_need_query (aCons (eVar 1) aNil)))))
def M_need_queries : FD := fnM 1 2 b_need_queries
theorem h_need_queries (F : Fx K w mg) : Has P w K mg base T "need_queries" (18) M_need_queries := by
  obtain ⟨fd, hf⟩ := F.f_need_queries
  refine ⟨⟨_, fd, ["queries"], F.g_need_queries, hf.kp, hf.bindsN (fun _ _ _ _ _ _ us hl => match us, hl with | [_], _ => rfl), fn_mk (k := 17) noO hf sc_need_queries (fun cdv A outer s H E hr hx tk hp => ?_)⟩⟩
  exact (dss_cons (ds_if (dw_or (dt_not (dt_val (de_isi (de_zb (de_var 0)) F.z_isinstance F.z_list (by decide +kernel)))) (dw_or1 (dt_cmp od_gt (de_ob (de_callBS cs_len (da_cons (de_zb (de_var 0)) da_nil) F.z_len (by decide +kernel))) (de_ob (de_gint F.i_MOST_PILES))))).dt (dss_one (ds_raise F.e_BadQuery tk)) dss_nil)
    (dss_one (ds_for hp (di_list (de_var 0)) (dg_name (i := 1) sc_need_queries.nd) (dss_one (ds_expr (de_call (h_need_query F) hr hx (da_cons (de_var 1) da_nil)))))))

theorem sc_is_so : FnScope ["query", "facts", "word", "name", "text"] ["query", "facts"] (defScope (topS 55)) := ⟨rfl, rfl, rfl, by decide +kernel, rfl, by decide +kernel, by decide +kernel⟩
def b_is_so (M : FD) : SD := (sSeq (sSet 2 (e2S ixS (eVar 0) (eC (.int 0))))
    (sSeq (sIf (tB1 (e2 eqD (eVar 2) (eC (.str "mark")))) (sRet (e2S (inS2 false) (e2S ixS (eVar 0) (eC (.int 1))) (eFld ["Entry", "Facts"] "marks" (eVar 1)))) sNext)
    (sSeq (sIf (tB1 (e2 eqD (eVar 2) (eC (.str "head")))) (sRet (eN anyD (aCons (eLc0 (iTpl (e2S ixS (eFld ["Entry", "Facts"] "letter" (eVar 1)) (eC (.int 0)))) (gTp 2 (gsCons (gNm 3) (gsCons (gNm 4) gsNil))) tYesD (eAndD (e2 eqD (eVar 3) (e2S ixS (eVar 0) (eC (.int 1)))) (e2S (inS2 false) (e2S ixS (eVar 0) (eC (.int 2))) (eVar 4))) [3, 4]) aNil))) sNext)
    (sSeq (sIf (tB1 (e2 eqD (eVar 2) (eC (.str "body")))) (sRet (e2S (inS2 false) (e2S ixS (eVar 0) (eC (.int 1))) (e2S ixS (eFld ["Entry", "Facts"] "letter" (eVar 1)) (eC (.int 1))))) sNext)
    (sSeq (sIf (tB1 (e2 eqD (eVar 2) (eC (.str "numbers")))) (sRet (e2S (inS2 false) (eFld ["Facts"] "number" (eVar 1)) (eCall M_set_of (aCons (e2S ixS (eVar 0) (eC (.int 1))) (aCons (eFld ["Facts"] "last" (eVar 1)) aNil))))) sNext)
    (sSeq (sIf (tB1 (e2 eqD (eVar 2) (eC (.str "newer")))) (sRet (e2 gtI (eFld ["Entry", "Facts"] "changed" (eVar 1)) (e2S ixS (eVar 0) (eC (.int 1))))) sNext)
    (sSeq (sIf (tB1 (e2 eqD (eVar 2) (eC (.str "not")))) (sRet (e1 notD (eCall (M) (aCons (e2S ixS (eVar 0) (eC (.int 1))) (aCons (eVar 1) aNil))))) sNext)
    (sSeq (sIf (tB1 (e2 eqD (eVar 2) (eC (.str "or")))) (sRet (eOrD (eCall (M) (aCons (e2S ixS (eVar 0) (eC (.int 1))) (aCons (eVar 1) aNil))) (eCall (M) (aCons (e2S ixS (eVar 0) (eC (.int 2))) (aCons (eVar 1) aNil))))) sNext)
    (sRet (eOrD (e2 eqD (eVar 2) (eC (.str "all"))) (eAndD (eCall (M) (aCons (e2S ixS (eVar 0) (eC (.int 1))) (aCons (eVar 1) aNil))) (eCall (M) (aCons (e2S ixS (eVar 0) (eC (.int 2))) (aCons (eVar 1) aNil))))))))))))))
def M_is_so : Nat → FD
  | 0 => fnM 2 5 sNo
  | n + 1 => fnM 2 5 (b_is_so (M_is_so n))
theorem h_is_so (F : Fx K w mg) : ∀ n : Nat, Has P w K mg base T "is_so" (4 + n + 1) (M_is_so n)
  | 0 => by
    obtain ⟨fd, hf⟩ := F.f_is_so
    exact ⟨⟨_, fd, ["query", "facts"], F.g_is_so, hf.kp, hf.bindsN (fun _ _ _ _ _ _ us hl => match us, hl with | [_, _], _ => rfl), fn_mk (k := 4 + 0) noO hf sc_is_so (fun cdv A outer s H E hr hx tk hp => dss_no)⟩⟩
  | n + 1 => by
    obtain ⟨fd, hf⟩ := F.f_is_so
    refine ⟨⟨_, fd, ["query", "facts"], F.g_is_so, hf.kp, hf.bindsN (fun _ _ _ _ _ _ us hl => match us, hl with | [_, _], _ => rfl), fn_mk (k := 4 + n + 1) noO hf sc_is_so (fun cdv A outer s H E hr hx tk hp => ?_)⟩⟩
    exact (dss_cons (ds_set (i := 2) sc_is_so.nd (de_ixS hr.units (de_zb (de_var 0)) (de_ob de_int)))
    (dss_cons (ds_if (dt_cmp (od_eq hr.units) (de_zb (de_var 2)) (de_ob de_str)) (dss_one (ds_ret (de_oz (de_inS hr.units (de_zb (de_ixS hr.units (de_zb (de_var 0)) (de_ob de_int))) (de_zb (de_fld F.fl_marks (de_var 1))))))) dss_nil)
    (dss_cons (ds_if (dt_cmp (od_eq hr.units) (de_zb (de_var 2)) (de_ob de_str)) (dss_one (ds_ret (de_oz (de_callB cd_any (da_cons (de_ob (dlc_0 [("name", 3), ("text", 4)] sc_is_so.nd (di_tup (de_ixS hr.units (de_zb (de_fld F.fl_letter (de_var 1))) (de_ob de_int))).x (fun _ _ _ _ _ => (dg_tup (n := 2) (dgs_cons (dg_name (i := 3) sc_is_so.nd) (dgs_cons (dg_name (i := 4) sc_is_so.nd) dgs_nil)))) (fun _ _ _ _ _ => pts_no) (fun _ _ _ _ _ => (de_oz (de_and (de_cmp (od_eq hr.units) (de_zb (de_var 3)) (de_zb (de_ixS hr.units (de_zb (de_var 0)) (de_ob de_int)))) (de_one (de_inS hr.units (de_zb (de_ixS hr.units (de_zb (de_var 0)) (de_ob de_int))) (de_zb (de_var 4)))))))).de) da_nil) F.z_any (by decide +kernel))))) dss_nil)
    (dss_cons (ds_if (dt_cmp (od_eq hr.units) (de_zb (de_var 2)) (de_ob de_str)) (dss_one (ds_ret (de_oz (de_inS hr.units (de_zb (de_ixS hr.units (de_zb (de_var 0)) (de_ob de_int))) (de_zb (de_ixS hr.units (de_zb (de_fld F.fl_letter (de_var 1))) (de_ob de_int))))))) dss_nil)
    (dss_cons (ds_if (dt_cmp (od_eq hr.units) (de_zb (de_var 2)) (de_ob de_str)) (dss_one (ds_ret (de_oz (de_inS hr.units (de_zb (de_fld F.fl_number (de_var 1))) (de_zb (de_call (h_set_of F) hr hx (da_cons (de_ixS hr.units (de_zb (de_var 0)) (de_ob de_int)) (da_cons (de_fld F.fl_last (de_var 1)) da_nil)) (hjk := by omega))))))) dss_nil)
    (dss_cons (ds_if (dt_cmp (od_eq hr.units) (de_zb (de_var 2)) (de_ob de_str)) (dss_one (ds_ret (de_oz (de_cmp od_gt (de_zb (de_fld F.fl_changed (de_var 1))) (de_zb (de_ixS hr.units (de_zb (de_var 0)) (de_ob de_int))))))) dss_nil)
    (dss_cons (ds_if (dt_cmp (od_eq hr.units) (de_zb (de_var 2)) (de_ob de_str)) (dss_one (ds_ret (de_oz (de_not (de_call (h_is_so F n) hr hx (da_cons (de_ixS hr.units (de_zb (de_var 0)) (de_ob de_int)) (da_cons (de_var 1) da_nil)) (hjk := by omega)))))) dss_nil)
    (dss_cons (ds_if (dt_cmp (od_eq hr.units) (de_zb (de_var 2)) (de_ob de_str)) (dss_one (ds_ret (de_or (de_call (h_is_so F n) hr hx (da_cons (de_ixS hr.units (de_zb (de_var 0)) (de_ob de_int)) (da_cons (de_var 1) da_nil)) (hjk := by omega)) (de_one (de_call (h_is_so F n) hr hx (da_cons (de_ixS hr.units (de_zb (de_var 0)) (de_ob de_int)) (da_cons (de_var 1) da_nil)) (hjk := by omega)))))) dss_nil)
    (dss_one (ds_ret (de_or (de_cmp (od_eq hr.units) (de_zb (de_var 2)) (de_ob de_str)) (de_one (de_and (de_call (h_is_so F n) hr hx (da_cons (de_ixS hr.units (de_zb (de_var 0)) (de_ob de_int)) (da_cons (de_var 1) da_nil)) (hjk := by omega)) (de_one (de_call (h_is_so F n) hr hx (da_cons (de_ixS hr.units (de_zb (de_var 0)) (de_ob de_int)) (da_cons (de_var 1) da_nil)) (hjk := by omega))))))))))))))))

theorem sc_Facts___init__ : FnScope ["self", "letter", "marks", "number", "last", "changed"] ["self", "letter", "marks", "number", "last", "changed"] (defScope (inClass (topS 54) 0)) := ⟨rfl, rfl, rfl, by decide +kernel, rfl, by decide +kernel, by decide +kernel⟩
def b_Facts___init__ : SD := (sSeq (sFldSet ["Entry", "Facts"] "letter" (eVar 0) (eVar 1))
    (sSeq (sFldSet ["Entry", "Facts"] "marks" (eVar 0) (eVar 2))
    (sSeq (sFldSet ["Facts"] "number" (eVar 0) (eVar 3))
    (sSeq (sFldSet ["Facts"] "last" (eVar 0) (eVar 4))
    (sFldSet ["Entry", "Facts"] "changed" (eVar 0) (eVar 5))))))
def M_Facts___init__ : FD := fnM 6 6 b_Facts___init__
theorem h_Facts___init__ (F : Fx K w mg) : HasN P w K mg base T "Facts" (1) M_Facts___init__ := by
  obtain ⟨fd, hf⟩ := F.f_Facts___init__
  refine ⟨F.g_Facts, ⟨_, fd, ["self", "letter", "marks", "number", "last", "changed"], F.k_Facts, hf.bindsN (fun _ _ _ _ _ _ us hl => match us, hl with | [_, _, _, _, _, _], _ => rfl), fn_mk (k := 0) noO hf sc_Facts___init__ (fun cdv A outer s H E hr hx tk hp => ?_)⟩⟩
  exact (dss_cons (ds_fld F.fl_letter (de_var 0) (de_var 1))
    (dss_cons (ds_fld F.fl_marks (de_var 0) (de_var 2))
    (dss_cons (ds_fld F.fl_number (de_var 0) (de_var 3))
    (dss_cons (ds_fld F.fl_last (de_var 0) (de_var 4))
    (dss_one (ds_fld F.fl_changed (de_var 0) (de_var 5)))))))

theorem sc_asked : FnScope ["shelf", "name", "query", "box", "last", "told", "number", "entry"] ["shelf", "name", "query"] (defScope (topS 56)) := ⟨rfl, rfl, rfl, by decide +kernel, rfl, by decide +kernel, by decide +kernel⟩
def b_asked : SD := (sSeq (sSet 3 (eMeth "Shelf" "box" M_Shelf_box (eVar 0) (aCons (eVar 1) aNil)))
    (sSeq (sExpr (eCall M_need_query (aCons (eVar 2) aNil)))
    (sSeq (sSet 4 (e2 maxDf (eNS listS (aCons (eFld ["Box"] "entries" (eVar 3)) aNil)) (eC (.int 0))))
    (sSeq (sSetO 5 (eN mkL aNil))
    (sSeq (sFor (iLst (eNS sortS3 (aCons (eFld ["Box"] "entries" (eVar 3)) aNil))) (gNm 6) (sSeq (sSet 7 (e2S ixS (eFld ["Box"] "entries" (eVar 3)) (eVar 6)))
    (sIf (tB1 (eCall (M_is_so 10) (aCons (eVar 2) (aCons (eNew "Facts" M_Facts___init__ (aCons (eFld ["Entry", "Facts"] "letter" (eVar 7)) (aCons (eFld ["Entry", "Facts"] "marks" (eVar 7)) (aCons (eVar 6) (aCons (eVar 4) (aCons (eFld ["Entry", "Facts"] "changed" (eVar 7)) aNil)))))) aNil)))) (sApp 5 (eVar 6)) sNext)))
    (sRet (eVar 5)))))))
def M_asked : FD := fnM 3 8 b_asked
theorem h_asked (F : Fx K w mg) : Has P w K mg base T "asked" (18) M_asked := by
  obtain ⟨fd, hf⟩ := F.f_asked
  refine ⟨⟨_, fd, ["shelf", "name", "query"], F.g_asked, hf.kp, hf.bindsN (fun _ _ _ _ _ _ us hl => match us, hl with | [_, _, _], _ => rfl), fn_mk (k := 17) (fun i => i == 5) hf sc_asked (fun cdv A outer s H E hr hx tk hp => ?_)⟩⟩
  exact (dss_cons (ds_set (i := 3) sc_asked.nd (de_meth (h_Shelf_box F) hr hx (de_var 0) (da_cons (de_var 1) da_nil)))
    (dss_cons (ds_expr (de_call (h_need_query F) hr hx (da_cons (de_var 2) da_nil)))
    (dss_cons (ds_set (i := 4) sc_asked.nd (de_maxDf hr.units66 (de_ob (de_callTS cs_list (da_cons (de_zb (de_fld F.fl_entries (de_var 3))) da_nil) F.z_list (by decide +kernel))) (de_oz de_int) F.z_max (by decide +kernel)))
    (dss_cons (ds_setO (i := 5) sc_asked.nd (de_lst da_nil))
    (dss_cons (ds_for hp (di_list (de_oz (de_callBS cs_sort (da_cons (de_zb (de_fld F.fl_entries (de_var 3))) da_nil) F.z_sorted (by decide +kernel)))) (dg_name (i := 6) sc_asked.nd) (dss_cons (ds_set (i := 7) sc_asked.nd (de_ixS hr.units (de_zb (de_fld F.fl_entries (de_var 3))) (de_zb (de_var 6))))
    (dss_one (ds_if (dt_val (de_call (h_is_so F 10) hr hx (da_cons (de_var 2) (da_cons (de_new (h_Facts___init__ F) hr hx (da_cons (de_fld F.fl_letter (de_var 7)) (da_cons (de_fld F.fl_marks (de_var 7)) (da_cons (de_var 6) (da_cons (de_var 4) (da_cons (de_fld F.fl_changed (de_var 7)) da_nil)))))) da_nil)))) (dss_one (ds_app (i := 5) (de_var 6))) dss_nil))))
    (dss_one (ds_ret (de_var 5))))))))

theorem sc_piles : FnScope ["shelf", "name", "queries", "left", "found", "query", "some", "number"] ["shelf", "name", "queries"] (defScope (topS 61)) := ⟨rfl, rfl, rfl, by decide +kernel, rfl, by decide +kernel, by decide +kernel⟩
def b_piles : SD := (sSeq (sSet 3 (eMeth "Shelf" "numbers" M_Shelf_numbers (eVar 0) (aCons (eVar 1) aNil)))
    (sSeq (sExpr (eCall M_need_queries (aCons (eVar 2) aNil)))
    (sSeq (sSetO 4 (eN mkL aNil))
    (sSeq (sFor (iLst (eVar 2)) (gNm 5) (sSeq (sSet 6 (eCall M_asked (aCons (eVar 0) (aCons (eVar 1) (aCons (eVar 5) aNil)))))
    (sSeq (sApp 4 (eLc0 (iLst (eVar 3)) (gNm 7) (tB1 (e2S (inS2 false) (eVar 7) (eVar 6))) (eVar 7) [7]))
    (sSet 3 (eLc0 (iLst (eVar 3)) (gNm 7) (tB1 (e2S (inS2 true) (eVar 7) (eVar 6))) (eVar 7) [7])))))
    (sRet (e2 addDT (eVar 4) (eN mkL (aCons (eVar 3) aNil))))))))
def M_piles : FD := fnM 3 8 b_piles
theorem h_piles (F : Fx K w mg) : Has P w K mg base T "piles" (19) M_piles := by
  obtain ⟨fd, hf⟩ := F.f_piles
  refine ⟨⟨_, fd, ["shelf", "name", "queries"], F.g_piles, hf.kp, hf.bindsN (fun _ _ _ _ _ _ us hl => match us, hl with | [_, _, _], _ => rfl), fn_mk (k := 18) (fun i => i == 4) hf sc_piles (fun cdv A outer s H E hr hx tk hp => ?_)⟩⟩
  exact (dss_cons (ds_set (i := 3) sc_piles.nd (de_oz (de_methO (h_Shelf_numbers F) hr hx (de_var 0) (da_cons (de_var 1) da_nil))))
    (dss_cons (ds_expr (de_call (h_need_queries F) hr hx (da_cons (de_var 2) da_nil)))
    (dss_cons (ds_setO (i := 4) sc_piles.nd (de_lst da_nil))
    (dss_cons (ds_for hp (di_list (de_var 2)) (dg_name (i := 5) sc_piles.nd) (dss_cons (ds_set (i := 6) sc_piles.nd (de_call (h_asked F) hr hx (da_cons (de_var 0) (da_cons (de_var 1) (da_cons (de_var 5) da_nil)))))
    (dss_cons (ds_app (i := 4) (de_oz (dlc_0 [("number", 7)] sc_piles.nd (di_list (de_var 3)).x (fun _ _ _ _ _ => (dg_name (i := 7) sc_piles.nd)) (fun _ _ _ _ _ => (pts_if (dt_inS hr.units (de_zb (de_var 7)) (de_zb (de_var 6))))) (fun _ _ _ _ _ => (de_var 7))).de))
    (dss_one (ds_setLc (i := 3) sc_piles.nd (dlc_0 [("number", 7)] sc_piles.nd (di_list (de_var 3)).x (fun _ _ _ _ _ => (dg_name (i := 7) sc_piles.nd)) (fun _ _ _ _ _ => (pts_if (dt_notInS hr.units (de_zb (de_var 7)) (de_zb (de_var 6))))) (fun _ _ _ _ _ => (de_var 7))) (sw_true rfl rfl rfl (by decide +kernel)))))))
    (dss_one (ds_ret (de_oz (de_bin od_addA (de_zb (de_var 4)) (de_ob (de_lst (da_cons (de_var 3) da_nil)))))))))))

theorem sc__law_small_letter : FnScope ["more", "called", "answers", "heads"] ["more"] (defScope (topS 78)) := ⟨rfl, rfl, rfl, by decide +kernel, rfl, by decide +kernel, by decide +kernel⟩
def b__law_small_letter : SD := (sSeq (sSet 1 (eMt "str" stripD (e2S ixS (eN mkL (aCons (e2 addDT (eC (.str "m")) (eN strAD (aCons (e2 modI (eVar 0) (eC (.int 6))) aNil))) (aCons (eC (.str "m1 ")) (aCons (eC (.str "")) (aCons (eC (.str "n")) aNil))))) (e2 modI (e2 fdivI (eVar 0) (eC (.int 8))) (eC (.int 4)))) (aCons (eC (.str " ")) aNil)))
    (sSeq (sSet 2 (e2S ixS (eN mkL (aCons (eC (.str "")) (aCons (eC (.str "m0")) (aCons (eC (.str "m1 m2")) (aCons (eC (.str "m3 m0 zz")) (aCons (eC (.str "zz")) aNil)))))) (e2 modI (e2 fdivI (eVar 0) (eC (.int 32))) (eC (.int 5)))))
    (sSeq (sSet 3 (eN mkL (aCons (eN mkT (aCons (eC (.str "subject")) (aCons (e2S ixS (eN mkL (aCons (eC (.str "a")) (aCons (eC (.str "news")) (aCons (eC (.str "hi you")) aNil)))) (e2 modI (e2 fdivI (eVar 0) (eC (.int 256))) (eC (.int 3)))) aNil))) aNil)))
    (sSeq (sIf (tB1 (e2 gtI (e2 modI (e2 fdivI (eVar 0) (eC (.int 1024))) (eC (.int 3))) (eC (.int 0)))) (sSet 3 (e2 addDT (eN mkL (aCons (eN mkT (aCons (eC (.str "id")) (aCons (eVar 1) aNil))) aNil)) (eVar 3))) sNext)
    (sSeq (sIf (tB1 (e2 eqD (e2 modI (e2 fdivI (eVar 0) (eC (.int 4096))) (eC (.int 2))) (eC (.int 0)))) (sSet 3 (e2 addDT (eVar 3) (eN mkL (aCons (eN mkT (aCons (eC (.str "re")) (aCons (eVar 2) aNil))) aNil)))) sNext)
    (sRet (eN mkT (aCons (eNS tupS (aCons (eVar 3) aNil)) (aCons (e2S ixS (eN mkL (aCons (eC (.str "")) (aCons (eC (.str "body")) (aCons (eC (.str "a news\nof it")) aNil)))) (e2 modI (e2 fdivI (eVar 0) (e2 powI (eC (.int 2)) (eC (.int 14)))) (eC (.int 3)))) aNil)))))))))
def M__law_small_letter : FD := fnM 1 4 b__law_small_letter
theorem h__law_small_letter (F : Fx K w mg) : Has P w K mg base T "_law_small_letter" (1) M__law_small_letter := by
  obtain ⟨fd, hf⟩ := F.f__law_small_letter
  refine ⟨⟨_, fd, ["more"], F.g__law_small_letter, hf.kp, hf.bindsN (fun _ _ _ _ _ _ us hl => match us, hl with | [_], _ => rfl), fn_mk (k := 0) noO hf sc__law_small_letter (fun cdv A outer s H E hr hx tk hp => ?_)⟩⟩
  exact (dss_cons (ds_set (i := 1) sc__law_small_letter.nd (de_oz (de_mt PySem.F.plainAttrs_str PySem.F.slot_str_strip PySem.F.type_str_strip md_strip (de_zb (de_ixS hr.units (de_ob (de_lst (da_cons (de_oz (de_bin od_addA (de_ob de_str) (de_ob (de_callT cd_strA (da_cons (de_ob (de_bin od_mod (de_zb (de_var 0)) (de_ob de_int))) da_nil) F.z_str (by decide +kernel))))) (da_cons (de_oz de_str) (da_cons (de_oz de_str) (da_cons (de_oz de_str) da_nil)))))) (de_ob (de_bin od_mod (de_ob (de_bin od_fdiv (de_zb (de_var 0)) (de_ob de_int))) (de_ob de_int))))) (da_cons (de_ob de_str) da_nil))))
    (dss_cons (ds_set (i := 2) sc__law_small_letter.nd (de_ixS hr.units (de_ob (de_lst (da_cons (de_oz de_str) (da_cons (de_oz de_str) (da_cons (de_oz de_str) (da_cons (de_oz de_str) (da_cons (de_oz de_str) da_nil))))))) (de_ob (de_bin od_mod (de_ob (de_bin od_fdiv (de_zb (de_var 0)) (de_ob de_int))) (de_ob de_int)))))
    (dss_cons (ds_set (i := 3) sc__law_small_letter.nd (de_oz (de_lst (da_cons (de_oz (de_tup (da_cons (de_oz de_str) (da_cons (de_ixS hr.units (de_ob (de_lst (da_cons (de_oz de_str) (da_cons (de_oz de_str) (da_cons (de_oz de_str) da_nil))))) (de_ob (de_bin od_mod (de_ob (de_bin od_fdiv (de_zb (de_var 0)) (de_ob de_int))) (de_ob de_int)))) da_nil)))) da_nil))))
    (dss_cons (ds_if (dt_cmp od_gt (de_ob (de_bin od_mod (de_ob (de_bin od_fdiv (de_zb (de_var 0)) (de_ob de_int))) (de_ob de_int))) (de_ob de_int)) (dss_one (ds_set (i := 3) sc__law_small_letter.nd (de_oz (de_bin od_addA (de_ob (de_lst (da_cons (de_oz (de_tup (da_cons (de_oz de_str) (da_cons (de_var 1) da_nil)))) da_nil))) (de_zb (de_var 3)))))) dss_nil)
    (dss_cons (ds_if (dt_cmp (od_eq hr.units) (de_ob (de_bin od_mod (de_ob (de_bin od_fdiv (de_zb (de_var 0)) (de_ob de_int))) (de_ob de_int))) (de_ob de_int)) (dss_one (ds_set (i := 3) sc__law_small_letter.nd (de_oz (de_bin od_addA (de_zb (de_var 3)) (de_ob (de_lst (da_cons (de_oz (de_tup (da_cons (de_oz de_str) (da_cons (de_var 2) da_nil)))) da_nil))))))) dss_nil)
    (dss_one (ds_ret (de_oz (de_tup (da_cons (de_oz (de_callTS cs_tup (da_cons (de_zb (de_var 3)) da_nil) F.z_tuple (by decide +kernel))) (da_cons (de_ixS hr.units (de_ob (de_lst (da_cons (de_oz de_str) (da_cons (de_oz de_str) (da_cons (de_oz de_str) da_nil))))) (de_ob (de_bin od_mod (de_ob (de_bin od_fdiv (de_zb (de_var 0)) (de_ob (de_bin od_pow (de_ob de_int) (de_ob de_int))))) (de_ob de_int)))) da_nil)))))))))))

theorem sc__law_some_marks : FnScope ["more", "some", "j"] ["more"] (defScope (topS 79)) := ⟨rfl, rfl, rfl, by decide +kernel, rfl, by decide +kernel, by decide +kernel⟩
def b__law_some_marks : SD := (sSeq (sSet 1 (eN mkL (aCons (eC (.str "seen")) (aCons (eC (.str "flag")) (aCons (eC (.str "old")) (aCons (eC (.str "a")) (aCons (eC (.str "b")) (aCons (eC (.str "todo")) (aCons (eC (.str "zz")) aNil)))))))))
    (sRet (eLc0 (iN range1D (aCons (e2S ixS (eN mkL (aCons (eC (.int 0)) (aCons (eC (.int 1)) (aCons (eC (.int 1)) (aCons (eC (.int 2)) (aCons (eC (.int 3)) aNil)))))) (e2 modI (e2 fdivI (eVar 0) (eC (.int 8))) (eC (.int 5)))) aNil)) (gNm 2) tYesD (e2S ixS (eVar 1) (e2 modI (e2 addDT (eVar 0) (e2 mulD (eC (.int 2)) (eVar 2))) (eC (.int 7)))) [2])))
def M__law_some_marks : FD := fnM 1 3 b__law_some_marks
theorem h__law_some_marks (F : Fx K w mg) : Has P w K mg base T "_law_some_marks" (1) M__law_some_marks := by
  obtain ⟨fd, hf⟩ := F.f__law_some_marks
  refine ⟨⟨_, fd, ["more"], F.g__law_some_marks, hf.kp, hf.bindsN (fun _ _ _ _ _ _ us hl => match us, hl with | [_], _ => rfl), fn_mk (k := 0) noO hf sc__law_some_marks (fun cdv A outer s H E hr hx tk hp => ?_)⟩⟩
  exact (dss_cons (ds_set (i := 1) sc__law_some_marks.nd (de_oz (de_lst (da_cons (de_oz de_str) (da_cons (de_oz de_str) (da_cons (de_oz de_str) (da_cons (de_oz de_str) (da_cons (de_oz de_str) (da_cons (de_oz de_str) (da_cons (de_oz de_str) da_nil))))))))))
    (dss_one (ds_ret (de_oz (dlc_0 [("j", 2)] sc__law_some_marks.nd (di_range1 (da_cons (de_zb (de_ixS hr.units (de_ob (de_lst (da_cons (de_oz de_int) (da_cons (de_oz de_int) (da_cons (de_oz de_int) (da_cons (de_oz de_int) (da_cons (de_oz de_int) da_nil))))))) (de_ob (de_bin od_mod (de_ob (de_bin od_fdiv (de_zb (de_var 0)) (de_ob de_int))) (de_ob de_int))))) da_nil) F.z_range).x (fun _ _ _ _ _ => (dg_name (i := 2) sc__law_some_marks.nd)) (fun _ _ _ _ _ => pts_no) (fun _ _ _ _ _ => (de_ixS hr.units (de_zb (de_var 1)) (de_ob (de_bin od_mod (de_ob (de_bin od_addA (de_zb (de_var 0)) (de_ob (de_bin od_mul (de_ob de_int) (de_zb (de_var 2)))))) (de_ob de_int)))))).de))))

theorem sc_Box_entry : FnScope ["self", "number"] ["self", "number"] (defScope (inClass (topS 42) 1)) := ⟨rfl, rfl, rfl, by decide +kernel, rfl, by decide +kernel, by decide +kernel⟩
def b_Box_entry : SD := (sSeq (sIf (tB1 (e2S (inS2 true) (eVar 1) (eFld ["Box"] "entries" (eVar 0)))) (sRaise "BadNumber") sNext)
    (sRet (e2S ixS (eFld ["Box"] "entries" (eVar 0)) (eVar 1))))
def M_Box_entry : FD := fnM 2 2 b_Box_entry
theorem h_Box_entry (F : Fx K w mg) : HasM P w K mg base T "Box" "entry" (1) M_Box_entry := by
  obtain ⟨fd, hf⟩ := F.f_Box_entry
  refine ⟨F.c_Box, ⟨_, fd, ["self", "number"], F.m_Box_entry, hf.bindsN (fun _ _ _ _ _ _ us hl => match us, hl with | [_, _], _ => rfl), fn_mk (k := 0) noO hf sc_Box_entry (fun cdv A outer s H E hr hx tk hp => ?_)⟩⟩
  exact (dss_cons (ds_if (dt_notInS hr.units (de_zb (de_var 1)) (de_zb (de_fld F.fl_entries (de_var 0)))) (dss_one (ds_raise F.e_BadNumber tk)) dss_nil)
    (dss_one (ds_ret (de_ixS hr.units (de_zb (de_fld F.fl_entries (de_var 0))) (de_zb (de_var 1))))))

theorem sc_Shelf_letter_at : FnScope ["self", "name", "number"] ["self", "name", "number"] (defScope (inClass (topS 70) 10)) := ⟨rfl, rfl, rfl, by decide +kernel, rfl, by decide +kernel, by decide +kernel⟩
def b_Shelf_letter_at : SD := (sRet (eFld ["Entry", "Facts"] "letter" (eMeth "Box" "entry" M_Box_entry (eMeth "Shelf" "box" M_Shelf_box (eVar 0) (aCons (eVar 1) aNil)) (aCons (eVar 2) aNil))))
def M_Shelf_letter_at : FD := fnM 3 3 b_Shelf_letter_at
theorem h_Shelf_letter_at (F : Fx K w mg) : HasM P w K mg base T "Shelf" "letter_at" (3) M_Shelf_letter_at := by
  obtain ⟨fd, hf⟩ := F.f_Shelf_letter_at
  refine ⟨F.c_Shelf, ⟨_, fd, ["self", "name", "number"], F.m_Shelf_letter_at, hf.bindsN (fun _ _ _ _ _ _ us hl => match us, hl with | [_, _, _], _ => rfl), fn_mk (k := 2) noO hf sc_Shelf_letter_at (fun cdv A outer s H E hr hx tk hp => ?_)⟩⟩
  exact (dss_one (ds_ret (de_fld F.fl_letter (de_meth (h_Box_entry F) hr hx (de_meth (h_Shelf_box F) hr hx (de_var 0) (da_cons (de_var 1) da_nil)) (da_cons (de_var 2) da_nil)))))

theorem sc_Shelf_marks_of : FnScope ["self", "name", "number"] ["self", "name", "number"] (defScope (inClass (topS 70) 11)) := ⟨rfl, rfl, rfl, by decide +kernel, rfl, by decide +kernel, by decide +kernel⟩
def b_Shelf_marks_of : SD := (sRet (eNS listS (aCons (eFld ["Entry", "Facts"] "marks" (eMeth "Box" "entry" M_Box_entry (eMeth "Shelf" "box" M_Shelf_box (eVar 0) (aCons (eVar 1) aNil)) (aCons (eVar 2) aNil))) aNil)))
def M_Shelf_marks_of : FD := fnM 3 3 b_Shelf_marks_of
theorem h_Shelf_marks_of (F : Fx K w mg) : HasM P w K mg base T "Shelf" "marks_of" (3) M_Shelf_marks_of := by
  obtain ⟨fd, hf⟩ := F.f_Shelf_marks_of
  refine ⟨F.c_Shelf, ⟨_, fd, ["self", "name", "number"], F.m_Shelf_marks_of, hf.bindsN (fun _ _ _ _ _ _ us hl => match us, hl with | [_, _, _], _ => rfl), fn_mk (k := 2) noO hf sc_Shelf_marks_of (fun cdv A outer s H E hr hx tk hp => ?_)⟩⟩
  exact (dss_one (ds_ret (de_oz (de_callTS cs_list (da_cons (de_zb (de_fld F.fl_marks (de_meth (h_Box_entry F) hr hx (de_meth (h_Shelf_box F) hr hx (de_var 0) (da_cons (de_var 1) da_nil)) (da_cons (de_var 2) da_nil)))) da_nil) F.z_list (by decide +kernel)))))

theorem sc_worth : FnScope ["shelf", "name", "number", "key", "letter"] ["shelf", "name", "number", "key"] (defScope (topS 64)) := ⟨rfl, rfl, rfl, by decide +kernel, rfl, by decide +kernel, by decide +kernel⟩
def b_worth : SD := (sSeq (sIf (tB1 (e2 eqD (e2S ixS (eVar 3) (eC (.int 0))) (eC (.str "marks")))) (sRet (eNS lenS (aCons (eMeth "Shelf" "marks_of" M_Shelf_marks_of (eVar 0) (aCons (eVar 1) (aCons (eVar 2) aNil))) aNil))) sNext)
    (sSeq (sSet 4 (eMeth "Shelf" "letter_at" M_Shelf_letter_at (eVar 0) (aCons (eVar 1) (aCons (eVar 2) aNil))))
    (sSeq (sIf (tB1 (e2 eqD (e2S ixS (eVar 3) (eC (.int 0))) (eC (.str "long")))) (sRet (eNS lenS (aCons (e2S ixS (eVar 4) (eC (.int 1))) aNil))) sNext)
    (sRet (eOrS (eCall M_head (aCons (eVar 4) (aCons (e2S ixS (eVar 3) (eC (.int 1))) aNil))) (eC (.str "")))))))
def M_worth : FD := fnM 4 5 b_worth
theorem h_worth (F : Fx K w mg) : Has P w K mg base T "worth" (4) M_worth := by
  obtain ⟨fd, hf⟩ := F.f_worth
  refine ⟨⟨_, fd, ["shelf", "name", "number", "key"], F.g_worth, hf.kp, hf.bindsN (fun _ _ _ _ _ _ us hl => match us, hl with | [_, _, _, _], _ => rfl), fn_mk (k := 3) noO hf sc_worth (fun cdv A outer s H E hr hx tk hp => ?_)⟩⟩
  exact (dss_cons (ds_if (dt_cmp (od_eq hr.units) (de_zb (de_ixS hr.units (de_zb (de_var 3)) (de_ob de_int))) (de_ob de_str)) (dss_one (ds_ret (de_oz (de_callBS cs_len (da_cons (de_zb (de_meth (h_Shelf_marks_of F) hr hx (de_var 0) (da_cons (de_var 1) (da_cons (de_var 2) da_nil)))) da_nil) F.z_len (by decide +kernel))))) dss_nil)
    (dss_cons (ds_set (i := 4) sc_worth.nd (de_meth (h_Shelf_letter_at F) hr hx (de_var 0) (da_cons (de_var 1) (da_cons (de_var 2) da_nil))))
    (dss_cons (ds_if (dt_cmp (od_eq hr.units) (de_zb (de_ixS hr.units (de_zb (de_var 3)) (de_ob de_int))) (de_ob de_str)) (dss_one (ds_ret (de_oz (de_callBS cs_len (da_cons (de_zb (de_ixS hr.units (de_zb (de_var 4)) (de_ob de_int))) da_nil) F.z_len (by decide +kernel))))) dss_nil)
    (dss_one (ds_ret (de_oz (de_orS (de_call (h_head F) hr hx (da_cons (de_var 4) (da_cons (de_ixS hr.units (de_zb (de_var 3)) (de_ob de_int)) da_nil))) (de_one de_str))))))))

theorem sc_is_key : FnScope ["thing"] ["thing"] (defScope (topS 63)) := ⟨rfl, rfl, rfl, by decide +kernel, rfl, by decide +kernel, by decide +kernel⟩
def b_is_key : SD := (sSeq (sIf (tOrD (tNotD (tB1 (e1 (isiD "tuple") (eVar 0)))) (tOrD (tB1 (e2 ltD (eNS lenS (aCons (eVar 0) aNil)) (eC (.int 2)))) (tNotD (tB1 (e1 (isiD "bool") (e2S ixS (eVar 0) (e1 negI (eC (.int 1))))))))) (sRet (eC (.bl false))) sNext)
    (sSeq (sIf (tB1 (e2 eqD (e2S ixS (eVar 0) (eC (.int 0))) (eC (.str "head")))) (sRet (eAndD (e2 eqD (eNS lenS (aCons (eVar 0) aNil)) (eC (.int 3))) (eAndD (e1 (isiD "str") (e2S ixS (eVar 0) (eC (.int 1)))) (eCall M_is_word (aCons (e2S ixS (eVar 0) (eC (.int 1))) (aCons (eC (.int 12)) aNil)))))) sNext)
    (sRet (eAndD (e2 eqD (eNS lenS (aCons (eVar 0) aNil)) (eC (.int 2))) (eAndD (e1 (isiD "str") (e2S ixS (eVar 0) (eC (.int 0)))) (e2S (inS2 false) (e2S ixS (eVar 0) (eC (.int 0))) (eN mkT (aCons (eC (.str "marks")) (aCons (eC (.str "long")) aNil)))))))))
def M_is_key : FD := fnM 1 1 b_is_key
theorem h_is_key (F : Fx K w mg) : Has P w K mg base T "is_key" (2) M_is_key := by
  obtain ⟨fd, hf⟩ := F.f_is_key
  refine ⟨⟨_, fd, ["thing"], F.g_is_key, hf.kp, hf.bindsN (fun _ _ _ _ _ _ us hl => match us, hl with | [_], _ => rfl), fn_mk (k := 1) noO hf sc_is_key (fun cdv A outer s H E hr hx tk hp => ?_)⟩⟩
  exact (dss_cons (ds_if (dw_or (dt_not (dt_val (de_isi (de_zb (de_var 0)) F.z_isinstance F.z_tuple (by decide +kernel)))) (dw_or (dt_cmp od_lt (de_ob (de_callBS cs_len (da_cons (de_zb (de_var 0)) da_nil) F.z_len (by decide +kernel))) (de_ob de_int)) (dw_or1 (dt_not (dt_val (de_isi (de_zb (de_ixS hr.units (de_zb (de_var 0)) (de_ob (de_un ud_neg (de_ob de_int))))) F.z_isinstance F.z_bool (by decide +kernel))))))).dt (dss_one (ds_ret (de_oz de_bl))) dss_nil)
    (dss_cons (ds_if (dt_cmp (od_eq hr.units) (de_zb (de_ixS hr.units (de_zb (de_var 0)) (de_ob de_int))) (de_ob de_str)) (dss_one (ds_ret (de_and (de_cmp (od_eq hr.units) (de_ob (de_callBS cs_len (da_cons (de_zb (de_var 0)) da_nil) F.z_len (by decide +kernel))) (de_ob de_int)) (de_and (de_isi (de_zb (de_ixS hr.units (de_zb (de_var 0)) (de_ob de_int))) F.z_isinstance F.z_str (by decide +kernel)) (de_one (de_call (h_is_word F) hr hx (da_cons (de_ixS hr.units (de_zb (de_var 0)) (de_ob de_int)) (da_cons (de_oz (de_gint F.i_MOST_NAME)) da_nil)))))))) dss_nil)
    (dss_one (ds_ret (de_oz (de_and (de_cmp (od_eq hr.units) (de_ob (de_callBS cs_len (da_cons (de_zb (de_var 0)) da_nil) F.z_len (by decide +kernel))) (de_ob de_int)) (de_and (de_isi (de_zb (de_ixS hr.units (de_zb (de_var 0)) (de_ob de_int))) F.z_isinstance F.z_str (by decide +kernel)) (de_one (de_inS hr.units (de_zb (de_ixS hr.units (de_zb (de_var 0)) (de_ob de_int))) (de_ob (de_tup (da_cons (de_oz de_str) (da_cons (de_oz de_str) da_nil)))))))))))))

theorem sc_ordered : FnScope ["shelf", "name", "keys", "found", "key", "rows", "number", "own", "worths"] ["shelf", "name", "keys"] (defScope (topS 65)) := ⟨rfl, rfl, rfl, by decide +kernel, rfl, by decide +kernel, by decide +kernel⟩
def b_ordered : SD := (sSeq (sSetO 3 (eMeth "Shelf" "numbers" M_Shelf_numbers (eVar 0) (aCons (eVar 1) aNil)))
    (sSeq (sIf (tOrD (tNotD (tB1 (e1 (isiD "list") (eVar 2)))) (tOrD (tB1 (e2 gtI (eNS lenS (aCons (eVar 2) aNil)) (eC (.int 4)))) (tNotD (tB1 (eN allD (aCons (eLc0 (iLst (eVar 2)) (gNm 4) tYesD (eCall M_is_key (aCons (eVar 4) aNil)) [4]) aNil)))))) (sRaise "BadQuery") sNext)
    (sSeq (sFor (iLst (e1S revS (eVar 2))) (gNm 4) (sSeq (sSet 5 (eSto (eC (.dct []))))
    (sSeq (sFree 3 (sFor (iLst (eVar 3)) (gNm 6) (sSeq (sSet 7 (eCall M_worth (aCons (eVar 0) (aCons (eVar 1) (aCons (eVar 6) (aCons (eVar 4) aNil))))))
    (sSetS (eVar 5) (eVar 7) (e2 addDT (eGet2 (eVar 5) (eVar 7) (eN mkL aNil)) (eN mkL (aCons (eVar 6) aNil)))))))
    (sSeq (sSet 8 (eNS sortS3 (aCons (eVar 5) aNil)))
    (sSeq (sIf (tB1 (e2S ixS (eVar 4) (e1 negI (eC (.int 1))))) (sSet 8 (e1S revS (eVar 8))) sNext)
    (sSeq (sSetO 3 (eN mkL aNil))
    (sFor (iLst (eVar 8)) (gNm 7) (sExt 3 (e2S ixS (eVar 5) (eVar 7))))))))))
    (sRet (eVar 3)))))
def M_ordered : FD := fnM 3 9 b_ordered
theorem h_ordered (F : Fx K w mg) : Has P w K mg base T "ordered" (5) M_ordered := by
  obtain ⟨fd, hf⟩ := F.f_ordered
  refine ⟨⟨_, fd, ["shelf", "name", "keys"], F.g_ordered, hf.kp, hf.bindsN (fun _ _ _ _ _ _ us hl => match us, hl with | [_, _, _], _ => rfl), fn_mk (k := 4) (fun i => i == 3) hf sc_ordered (fun cdv A outer s H E hr hx tk hp => ?_)⟩⟩
  exact (dss_cons (ds_setO (i := 3) sc_ordered.nd (de_methO (h_Shelf_numbers F) hr hx (de_var 0) (da_cons (de_var 1) da_nil)))
    (dss_cons (ds_if (dw_or (dt_not (dt_val (de_isi (de_zb (de_var 2)) F.z_isinstance F.z_list (by decide +kernel)))) (dw_or (dt_cmp od_gt (de_ob (de_callBS cs_len (da_cons (de_zb (de_var 2)) da_nil) F.z_len (by decide +kernel))) (de_ob (de_gint F.i_MOST_KEYS))) (dw_or1 (dt_not (dt_val (de_callB cd_all (da_cons (de_ob (dlc_0 [("key", 4)] sc_ordered.nd (di_list (de_var 2)).x (fun _ _ _ _ _ => (dg_name (i := 4) sc_ordered.nd)) (fun _ _ _ _ _ => pts_no) (fun _ _ _ _ _ => (de_call (h_is_key F) hr passLN (da_cons (de_var 4) da_nil)))).de) da_nil) F.z_all (by decide +kernel))))))).dt (dss_one (ds_raise F.e_BadQuery tk)) dss_nil)
    (dss_cons (ds_for hp (di_list (de_oz (de_rev (de_zb (de_var 2))))) (dg_name (i := 4) sc_ordered.nd) (dss_cons (ds_set (i := 5) sc_ordered.nd (de_sto de_dict0))
    (dss_cons (ds_free 3 (ds_for hp (di_list (de_var 3)) (dg_name (i := 6) sc_ordered.nd) (dss_cons (ds_set (i := 7) sc_ordered.nd (de_call (h_worth F) hr (by exact hx) (da_cons (de_var 0) (da_cons (de_var 1) (da_cons (de_var 6) (da_cons (de_var 4) da_nil))))))
    (dss_one (ds_setS hr.units (de_zb (de_var 5)) (de_zb (de_var 7)) (de_oz (de_bin od_addA (de_zb (de_get2 hr.units (de_zb (de_var 5)) (de_zb (de_var 7)) (de_oz (de_lst da_nil)))) (de_ob (de_lst (da_cons (de_var 6) da_nil))))))))))
    (dss_cons (ds_set (i := 8) sc_ordered.nd (de_oz (de_callBS cs_sort (da_cons (de_zb (de_var 5)) da_nil) F.z_sorted (by decide +kernel))))
    (dss_cons (ds_if (dt_val (de_ixS hr.units (de_zb (de_var 4)) (de_ob (de_un ud_neg (de_ob de_int))))) (dss_one (ds_set (i := 8) sc_ordered.nd (de_oz (de_rev (de_zb (de_var 8)))))) dss_nil)
    (dss_cons (ds_setO (i := 3) sc_ordered.nd (de_lst da_nil))
    (dss_one (ds_for hp (di_list (de_var 8)) (dg_name (i := 7) sc_ordered.nd) (dss_one (ds_ext (i := 3) (de_zb (de_ixS hr.units (de_zb (de_var 5)) (de_zb (de_var 7))))))))))))))
    (dss_one (ds_ret (de_var 3))))))

theorem sc_Watch___init__ : FnScope ["self", "shelf", "name", "query"] ["self", "shelf", "name", "query"] (defScope (inClass (topS 72) 0)) := ⟨rfl, rfl, rfl, by decide +kernel, rfl, by decide +kernel, by decide +kernel⟩
def b_Watch___init__ : SD := (sSeq (sFldSet ["Watch"] "shelf" (eVar 0) (eVar 1))
    (sSeq (sFldSet ["Box", "Watch"] "stamp" (eVar 0) (eFld ["Box", "Watch"] "stamp" (eMeth "Shelf" "box" M_Shelf_box (eVar 1) (aCons (eVar 2) aNil))))
    (sSeq (sFldSet ["Watch"] "wanted" (eVar 0) (eVar 3))
    (sFldSet ["Watch"] "known" (eVar 0) (eCall M_asked (aCons (eVar 1) (aCons (eVar 2) (aCons (eVar 3) aNil))))))))
def M_Watch___init__ : FD := fnM 4 4 b_Watch___init__
theorem h_Watch___init__ (F : Fx K w mg) : HasN P w K mg base T "Watch" (19) M_Watch___init__ := by
  obtain ⟨fd, hf⟩ := F.f_Watch___init__
  refine ⟨F.g_Watch, ⟨_, fd, ["self", "shelf", "name", "query"], F.k_Watch, hf.bindsN (fun _ _ _ _ _ _ us hl => match us, hl with | [_, _, _, _], _ => rfl), fn_mk (k := 18) noO hf sc_Watch___init__ (fun cdv A outer s H E hr hx tk hp => ?_)⟩⟩
  exact (dss_cons (ds_fld F.fl_shelf (de_var 0) (de_var 1))
    (dss_cons (ds_fld F.fl_stamp (de_var 0) (de_fld F.fl_stamp (de_meth (h_Shelf_box F) hr hx (de_var 1) (da_cons (de_var 2) da_nil))))
    (dss_cons (ds_fld F.fl_wanted (de_var 0) (de_var 3))
    (dss_one (ds_fld F.fl_known (de_var 0) (de_call (h_asked F) hr hx (da_cons (de_var 1) (da_cons (de_var 2) (da_cons (de_var 3) da_nil)))))))))

theorem sc_tally : FnScope ["shelf", "name", "found", "number", "mark"] ["shelf", "name"] (defScope (topS 62)) := ⟨rfl, rfl, rfl, by decide +kernel, rfl, by decide +kernel, by decide +kernel⟩
def b_tally : SD := (sSeq (sSet 2 (eSto (eC (.dct []))))
    (sSeq (sFor (iLst (eMeth "Shelf" "numbers" M_Shelf_numbers (eVar 0) (aCons (eVar 1) aNil))) (gNm 3) (sFor (iLst (eMeth "Shelf" "marks_of" M_Shelf_marks_of (eVar 0) (aCons (eVar 1) (aCons (eVar 3) aNil)))) (gNm 4) (sSetS (eVar 2) (eVar 4) (e2 addDT (eGet2 (eVar 2) (eVar 4) (eC (.int 0))) (eC (.int 1))))))
    (sRet (eLc0 (iLst (eNS sortS3 (aCons (eVar 2) aNil))) (gNm 4) tYesD (eN mkT (aCons (eVar 4) (aCons (e2S ixS (eVar 2) (eVar 4)) aNil))) [4]))))
def M_tally : FD := fnM 2 5 b_tally
theorem h_tally (F : Fx K w mg) : Has P w K mg base T "tally" (4) M_tally := by
  obtain ⟨fd, hf⟩ := F.f_tally
  refine ⟨⟨_, fd, ["shelf", "name"], F.g_tally, hf.kp, hf.bindsN (fun _ _ _ _ _ _ us hl => match us, hl with | [_, _], _ => rfl), fn_mk (k := 3) noO hf sc_tally (fun cdv A outer s H E hr hx tk hp => ?_)⟩⟩
  exact (dss_cons (ds_set (i := 2) sc_tally.nd (de_sto de_dict0))
    (dss_cons (ds_for hp (di_list (de_oz (de_methO (h_Shelf_numbers F) hr hx (de_var 0) (da_cons (de_var 1) da_nil)))) (dg_name (i := 3) sc_tally.nd) (dss_one (ds_for hp (di_list (de_meth (h_Shelf_marks_of F) hr hx (de_var 0) (da_cons (de_var 1) (da_cons (de_var 3) da_nil)))) (dg_name (i := 4) sc_tally.nd) (dss_one (ds_setS hr.units (de_zb (de_var 2)) (de_zb (de_var 4)) (de_oz (de_bin od_addA (de_zb (de_get2 hr.units (de_zb (de_var 2)) (de_zb (de_var 4)) (de_oz de_int))) (de_ob de_int))))))))
    (dss_one (ds_ret (de_oz (dlc_0 [("mark", 4)] sc_tally.nd (di_list (de_oz (de_callBS cs_sort (da_cons (de_zb (de_var 2)) da_nil) F.z_sorted (by decide +kernel)))).x (fun _ _ _ _ _ => (dg_name (i := 4) sc_tally.nd)) (fun _ _ _ _ _ => pts_no) (fun _ _ _ _ _ => (de_oz (de_tup (da_cons (de_var 4) (da_cons (de_ixS hr.units (de_zb (de_var 2)) (de_zb (de_var 4))) da_nil)))))).de)))))

theorem sc_law : FnScope ["script", "k", "more", "shelf", "j", "bad", "found", "some"] ["script"] (defScope (topS 80)) := ⟨rfl, rfl, rfl, by decide +kernel, rfl, by decide +kernel, by decide +kernel⟩
def b_law : SD := (sSeq (sFor (iN range1D (aCons (eN maxD (aCons (eC (.int 1)) (aCons (eN minD (aCons (eC (.int 4)) (aCons (eNS lenS (aCons (eVar 0) aNil)) aNil))) aNil))) aNil)) (gNm 1) (sSeq (sSet 2 (eCall M__law_drawn (aCons (eCall M__law_cell (aCons (eVar 0) (aCons (eVar 1) aNil))) (aCons (eVar 1) aNil))))
    (sSeq (sSet 3 (eNew "Shelf" M_Shelf___init__ aNil))
    (sSeq (sFor (iN range1D (aCons (e2 modI (eVar 2) (eC (.int 4))) aNil)) (gNm 4) (sExpr (eMeth "Shelf" "put" M_Shelf_put (eVar 3) (aCons (eC (.str "in")) (aCons (eCall M__law_small_letter (aCons (eCall M__law_drawn (aCons (eVar 2) (aCons (eVar 4) aNil))) aNil)) (aCons (eCall M__law_some_marks (aCons (eCall M__law_drawn (aCons (eVar 2) (aCons (e2 addDT (eC (.int 9)) (eVar 4)) aNil))) aNil)) aNil))))))
    (sSeq (sFor (iLst (eN mkL (aCons (eC (.str "b")) (aCons (eC (.str "")) (aCons (eC (.str "in/a")) (aCons (eC (.str "IN")) aNil)))))) (gNm 5) (sSeq (sSetO 6 (eN mkL (aCons (eTold errs (eNew "Watch" M_Watch___init__ (aCons (eVar 3) (aCons (eVar 5) (aCons (eC .non) aNil))))) aNil)))
    (sSeq (sApp 6 (eTold errs (eCall M_piles (aCons (eVar 3) (aCons (eVar 5) (aCons (eC .non) aNil))))))
    (sSeq (sApp 6 (eTold errs (eCall M_tally (aCons (eVar 3) (aCons (eVar 5) aNil)))))
    (sSeq (sApp 6 (eTold errs (eCall M_ordered (aCons (eVar 3) (aCons (eVar 5) (aCons (eC .non) aNil))))))
    (sIf (tB1 (e2 neD (eVar 6) (e2 mulD (eN mkL (aCons (eN mkT (aCons (eC (.str "refused")) (aCons (eC (.str "BadBox")) aNil))) aNil)) (eC (.int 4))))) (sRet (eC (.bl false))) sNext))))))
    (sSeq (sFor (iLst (eN mkL (aCons (eC .non) (aCons (eN mkT aNil) (aCons (eN mkT (aCons (eC (.str "all")) (aCons (eC (.int 1)) aNil))) (aCons (eN mkT (aCons (eC (.str "mark")) (aCons (eC (.str "A")) aNil))) (aCons (eN mkT (aCons (eC (.str "not")) aNil)) (aCons (eN mkT (aCons (eC (.str "head")) (aCons (eC (.str "a")) (aCons (eC (.str "\"")) aNil)))) (aCons (eN mkL (aCons (eC (.str "all")) aNil)) (aCons (eN mkT (aCons (eC (.str "numbers")) (aCons (eC (.str "")) aNil))) aNil)))))))))) (gNm 5) (sSeq (sSetO 6 (eN mkL (aCons (eTold errs (eNew "Watch" M_Watch___init__ (aCons (eVar 3) (aCons (eC (.str "in")) (aCons (eVar 5) aNil))))) aNil)))
    (sSeq (sApp 6 (eTold errs (eCall M_piles (aCons (eVar 3) (aCons (eC (.str "in")) (aCons (eVar 5) aNil))))))
    (sSeq (sApp 6 (eTold errs (eCall M_piles (aCons (eVar 3) (aCons (eC (.str "in")) (aCons (eN mkL (aCons (eN mkT (aCons (eC (.str "all")) aNil)) (aCons (eVar 5) aNil))) aNil))))))
    (sIf (tB1 (e2 neD (eVar 6) (e2 mulD (eN mkL (aCons (eN mkT (aCons (eC (.str "refused")) (aCons (eC (.str "BadQuery")) aNil))) aNil)) (eC (.int 3))))) (sRet (eC (.bl false))) sNext)))))
    (sSeq (sSet 7 (eN mkL (aCons (eC .non) (aCons (eN mkT aNil) (aCons (eN mkT (aCons (eC (.str "marks")) aNil)) (aCons (eN mkT (aCons (eC (.str "marks")) (aCons (eC (.int 1)) aNil))) (aCons (eN mkT (aCons (eC (.str "marks")) (aCons (eC .non) aNil))) (aCons (eN mkT (aCons (eC (.str "head")) (aCons (eC (.bl true)) aNil))) (aCons (eN mkT (aCons (eC (.str "head")) (aCons (eC (.str "A")) (aCons (eC (.bl true)) aNil)))) aNil)))))))))
    (sSeq (sFor (iLst (e2 addDT (eVar 7) (eN mkL (aCons (eN mkT (aCons (eC (.str "head")) (aCons (eC (.str "")) (aCons (eC (.bl false)) aNil)))) (aCons (eN mkT (aCons (eC (.str "long")) (aCons (eC (.str "a")) (aCons (eC (.bl true)) aNil)))) (aCons (eN mkL (aCons (eC (.str "marks")) (aCons (eC (.bl true)) aNil))) (aCons (eN mkT (aCons (eC (.str "body")) (aCons (eC (.bl true)) aNil))) (aCons (eN mkT (aCons (eC (.str "head")) (aCons (eC (.str "x")) (aCons (eC (.int 0)) aNil)))) aNil)))))))) (gNm 5) (sIf (tB1 (e2 neD (eTold errs (eCall M_ordered (aCons (eVar 3) (aCons (eC (.str "in")) (aCons (eN mkL (aCons (eN mkT (aCons (eC (.str "long")) (aCons (eC (.bl true)) aNil))) (aCons (eVar 5) aNil))) aNil))))) (eN mkT (aCons (eC (.str "refused")) (aCons (eC (.str "BadQuery")) aNil))))) (sRet (eC (.bl false))) sNext))
    (sSeq (sFor (iLst (eN mkL (aCons (eC .non) (aCons (eN mkT (aCons (eN mkT (aCons (eC (.str "marks")) (aCons (eC (.bl true)) aNil))) aNil)) (aCons (e2 mulD (eN mkL (aCons (eN mkT (aCons (eC (.str "marks")) (aCons (eC (.bl true)) aNil))) aNil)) (eC (.int 5))) (aCons (eC (.str "marks")) aNil)))))) (gNm 5) (sIf (tB1 (e2 neD (eTold errs (eCall M_ordered (aCons (eVar 3) (aCons (eC (.str "in")) (aCons (eVar 5) aNil))))) (eN mkT (aCons (eC (.str "refused")) (aCons (eC (.str "BadQuery")) aNil))))) (sRet (eC (.bl false))) sNext))
    (sSeq (sIf (tB1 (e2 neD (eTold errs (eCall M_piles (aCons (eVar 3) (aCons (eC (.str "in")) (aCons (e2 mulD (eN mkL (aCons (eN mkT (aCons (eC (.str "all")) aNil)) aNil)) (eC (.int 13))) aNil))))) (eN mkT (aCons (eC (.str "refused")) (aCons (eC (.str "BadQuery")) aNil))))) (sRet (eC (.bl false))) sNext)
    (sSeq (sIf (tB1 (e2 neD (eCall M_piles (aCons (eVar 3) (aCons (eC (.str "in")) (aCons (e2 mulD (eN mkL (aCons (eN mkT (aCons (eC (.str "all")) aNil)) aNil)) (eC (.int 12))) aNil)))) (e2 addDT (eN mkL (aCons (eMeth "Shelf" "numbers" M_Shelf_numbers (eVar 3) (aCons (eC (.str "in")) aNil)) aNil)) (e2 mulD (eN mkL (aCons (eN mkL aNil) aNil)) (eC (.int 12)))))) (sRet (eC (.bl false))) sNext)
    (sIf (tB1 (e2 neD (eNS sortS3 (aCons (eCall M_ordered (aCons (eVar 3) (aCons (eC (.str "in")) (aCons (e2 mulD (eN mkL (aCons (eN mkT (aCons (eC (.str "head")) (aCons (eC (.str "abcdefghijkl")) (aCons (eC (.bl true)) aNil)))) aNil)) (eC (.int 4))) aNil)))) aNil)) (eMeth "Shelf" "numbers" M_Shelf_numbers (eVar 3) (aCons (eC (.str "in")) aNil)))) (sRet (eC (.bl false))) sNext))))))))))))
    (sRet (eC (.bl true))))
def M_law : FD := fnM 1 8 b_law
theorem h_law (F : Fx K w mg) (TB : TBs K base mg) {fd : FuncData} (hf : FunD K "law" "law" (defArgs (topS 80)) (defBody (topS 80)) (defScope (topS 80)) [] [] (He.ga K "law") fd) : FnOk P w K mg base (L2N.CX P w) 23 (He.ga K "law") fd ["script"] (spOf K (lawT K) M_law) := by
  refine fn_mkT (T := lawT K) (k := 22) (fun i => i == 6) hf sc_law rfl (fun A outer s H E hr hx tk hp => ?_)
  exact (dss_cons (ds_for hp (di_range1 (da_cons (de_ob (de_callB cd_max (da_cons (de_ob de_int) (da_cons (de_ob (de_callB cd_min (da_cons (de_ob de_int) (da_cons (de_ob (de_callBS cs_len (da_cons (de_zb (de_var 0)) da_nil) F.z_len (by decide +kernel))) da_nil)) F.z_min (by decide +kernel))) da_nil)) F.z_max (by decide +kernel))) da_nil) F.z_range) (dg_name (i := 1) sc_law.nd) (dss_cons (ds_set (i := 2) sc_law.nd (de_call (h__law_drawn F) hr hx (da_cons (de_call (h__law_cell F) hr hx (da_cons (de_var 0) (da_cons (de_var 1) da_nil))) (da_cons (de_var 1) da_nil))))
    (dss_cons (ds_set (i := 3) sc_law.nd (de_new0 (h_Shelf___init__ F) hr hx))
    (dss_cons (ds_for hp (di_range1 (da_cons (de_ob (de_bin od_mod (de_zb (de_var 2)) (de_ob de_int))) da_nil) F.z_range) (dg_name (i := 4) sc_law.nd) (dss_one (ds_expr (de_meth (h_Shelf_put F) hr hx (de_var 3) (da_cons (de_oz de_str) (da_cons (de_call (h__law_small_letter F) hr hx (da_cons (de_call (h__law_drawn F) hr hx (da_cons (de_var 2) (da_cons (de_var 4) da_nil))) da_nil)) (da_cons (de_call (h__law_some_marks F) hr hx (da_cons (de_call (h__law_drawn F) hr hx (da_cons (de_var 2) (da_cons (de_oz (de_bin od_addA (de_ob de_int) (de_zb (de_var 4)))) da_nil))) da_nil)) da_nil)))))))
    (dss_cons (ds_for hp (di_list (de_oz (de_lst (da_cons (de_oz de_str) (da_cons (de_oz de_str) (da_cons (de_oz de_str) (da_cons (de_oz de_str) da_nil))))))) (dg_name (i := 5) sc_law.nd) (dss_cons (ds_setO (i := 6) sc_law.nd (de_lst (da_cons (de_told2 (k := 20) ((h_told F).mono (by decide)) TB.t_law TB.nd rfl (List.mem_of_getElem? (i := 0) rfl) hr (fun A outer s H E f c_ hr => by exact (de_new (h_Watch___init__ F) hr lamD_hx (da_cons (de_var 3) (da_cons (de_var 5) (da_cons (de_oz de_non) da_nil)))))) da_nil)))
    (dss_cons (ds_app (i := 6) (de_told2 (k := 20) ((h_told F).mono (by decide)) TB.t_law TB.nd rfl (List.mem_of_getElem? (i := 0) rfl) hr (fun A outer s H E f c_ hr => by exact (de_call (h_piles F) hr lamD_hx (da_cons (de_var 3) (da_cons (de_var 5) (da_cons (de_oz de_non) da_nil)))))))
    (dss_cons (ds_app (i := 6) (de_told2 (k := 20) ((h_told F).mono (by decide)) TB.t_law TB.nd rfl (List.mem_of_getElem? (i := 0) rfl) hr (fun A outer s H E f c_ hr => by exact (de_call (h_tally F) hr lamD_hx (da_cons (de_var 3) (da_cons (de_var 5) da_nil))))))
    (dss_cons (ds_app (i := 6) (de_told2 (k := 20) ((h_told F).mono (by decide)) TB.t_law TB.nd rfl (List.mem_of_getElem? (i := 0) rfl) hr (fun A outer s H E f c_ hr => by exact (de_call (h_ordered F) hr lamD_hx (da_cons (de_var 3) (da_cons (de_var 5) (da_cons (de_oz de_non) da_nil)))))))
    (dss_one (ds_if (dt_cmp (od_ne hr.units) (de_own 6) (de_ob (de_bin od_mul (de_ob (de_lst (da_cons (de_oz (de_tup (da_cons (de_oz de_str) (da_cons (de_oz de_str) da_nil)))) da_nil))) (de_ob de_int)))) (dss_one (ds_ret (de_oz de_bl))) dss_nil)))))))
    (dss_cons (ds_for hp (di_list (de_oz (de_lst (da_cons (de_oz de_non) (da_cons (de_oz (de_tup da_nil)) (da_cons (de_oz (de_tup (da_cons (de_oz de_str) (da_cons (de_oz de_int) da_nil)))) (da_cons (de_oz (de_tup (da_cons (de_oz de_str) (da_cons (de_oz de_str) da_nil)))) (da_cons (de_oz (de_tup (da_cons (de_oz de_str) da_nil))) (da_cons (de_oz (de_tup (da_cons (de_oz de_str) (da_cons (de_oz de_str) (da_cons (de_oz de_str) da_nil))))) (da_cons (de_oz (de_lst (da_cons (de_oz de_str) da_nil))) (da_cons (de_oz (de_tup (da_cons (de_oz de_str) (da_cons (de_oz de_str) da_nil)))) da_nil))))))))))) (dg_name (i := 5) sc_law.nd) (dss_cons (ds_setO (i := 6) sc_law.nd (de_lst (da_cons (de_told2 (k := 20) ((h_told F).mono (by decide)) TB.t_law TB.nd rfl (List.mem_of_getElem? (i := 0) rfl) hr (fun A outer s H E f c_ hr => by exact (de_new (h_Watch___init__ F) hr lamD_hx (da_cons (de_var 3) (da_cons (de_oz de_str) (da_cons (de_var 5) da_nil)))))) da_nil)))
    (dss_cons (ds_app (i := 6) (de_told2 (k := 20) ((h_told F).mono (by decide)) TB.t_law TB.nd rfl (List.mem_of_getElem? (i := 0) rfl) hr (fun A outer s H E f c_ hr => by exact (de_call (h_piles F) hr lamD_hx (da_cons (de_var 3) (da_cons (de_oz de_str) (da_cons (de_var 5) da_nil)))))))
    (dss_cons (ds_app (i := 6) (de_told2 (k := 20) ((h_told F).mono (by decide)) TB.t_law TB.nd rfl (List.mem_of_getElem? (i := 0) rfl) hr (fun A outer s H E f c_ hr => by exact (de_call (h_piles F) hr lamD_hx (da_cons (de_var 3) (da_cons (de_oz de_str) (da_cons (de_oz (de_lst (da_cons (de_oz (de_tup (da_cons (de_oz de_str) da_nil))) (da_cons (de_var 5) da_nil)))) da_nil)))))))
    (dss_one (ds_if (dt_cmp (od_ne hr.units) (de_own 6) (de_ob (de_bin od_mul (de_ob (de_lst (da_cons (de_oz (de_tup (da_cons (de_oz de_str) (da_cons (de_oz de_str) da_nil)))) da_nil))) (de_ob de_int)))) (dss_one (ds_ret (de_oz de_bl))) dss_nil))))))
    (dss_cons (ds_set (i := 7) sc_law.nd (de_oz (de_lst (da_cons (de_oz de_non) (da_cons (de_oz (de_tup da_nil)) (da_cons (de_oz (de_tup (da_cons (de_oz de_str) da_nil))) (da_cons (de_oz (de_tup (da_cons (de_oz de_str) (da_cons (de_oz de_int) da_nil)))) (da_cons (de_oz (de_tup (da_cons (de_oz de_str) (da_cons (de_oz de_non) da_nil)))) (da_cons (de_oz (de_tup (da_cons (de_oz de_str) (da_cons (de_oz de_bl) da_nil)))) (da_cons (de_oz (de_tup (da_cons (de_oz de_str) (da_cons (de_oz de_str) (da_cons (de_oz de_bl) da_nil))))) da_nil))))))))))
    (dss_cons (ds_for hp (di_list (de_oz (de_bin od_addA (de_zb (de_var 7)) (de_ob (de_lst (da_cons (de_oz (de_tup (da_cons (de_oz de_str) (da_cons (de_oz de_str) (da_cons (de_oz de_bl) da_nil))))) (da_cons (de_oz (de_tup (da_cons (de_oz de_str) (da_cons (de_oz de_str) (da_cons (de_oz de_bl) da_nil))))) (da_cons (de_oz (de_lst (da_cons (de_oz de_str) (da_cons (de_oz de_bl) da_nil)))) (da_cons (de_oz (de_tup (da_cons (de_oz de_str) (da_cons (de_oz de_bl) da_nil)))) (da_cons (de_oz (de_tup (da_cons (de_oz de_str) (da_cons (de_oz de_str) (da_cons (de_oz de_int) da_nil))))) da_nil)))))))))) (dg_name (i := 5) sc_law.nd) (dss_one (ds_if (dt_cmp (od_ne hr.units) (de_zb (de_told2 (k := 20) ((h_told F).mono (by decide)) TB.t_law TB.nd rfl (List.mem_of_getElem? (i := 0) rfl) hr (fun A outer s H E f c_ hr => by exact (de_call (h_ordered F) hr lamD_hx (da_cons (de_var 3) (da_cons (de_oz de_str) (da_cons (de_oz (de_lst (da_cons (de_oz (de_tup (da_cons (de_oz de_str) (da_cons (de_oz de_bl) da_nil)))) (da_cons (de_var 5) da_nil)))) da_nil))))))) (de_ob (de_tup (da_cons (de_oz de_str) (da_cons (de_oz de_str) da_nil))))) (dss_one (ds_ret (de_oz de_bl))) dss_nil)))
    (dss_cons (ds_for hp (di_list (de_oz (de_lst (da_cons (de_oz de_non) (da_cons (de_oz (de_tup (da_cons (de_oz (de_tup (da_cons (de_oz de_str) (da_cons (de_oz de_bl) da_nil)))) da_nil))) (da_cons (de_oz (de_bin od_mul (de_ob (de_lst (da_cons (de_oz (de_tup (da_cons (de_oz de_str) (da_cons (de_oz de_bl) da_nil)))) da_nil))) (de_ob de_int))) (da_cons (de_oz de_str) da_nil))))))) (dg_name (i := 5) sc_law.nd) (dss_one (ds_if (dt_cmp (od_ne hr.units) (de_zb (de_told2 (k := 20) ((h_told F).mono (by decide)) TB.t_law TB.nd rfl (List.mem_of_getElem? (i := 0) rfl) hr (fun A outer s H E f c_ hr => by exact (de_call (h_ordered F) hr lamD_hx (da_cons (de_var 3) (da_cons (de_oz de_str) (da_cons (de_var 5) da_nil))))))) (de_ob (de_tup (da_cons (de_oz de_str) (da_cons (de_oz de_str) da_nil))))) (dss_one (ds_ret (de_oz de_bl))) dss_nil)))
    (dss_cons (ds_if (dt_cmp (od_ne hr.units) (de_zb (de_told2 (k := 20) ((h_told F).mono (by decide)) TB.t_law TB.nd rfl (List.mem_of_getElem? (i := 0) rfl) hr (fun A outer s H E f c_ hr => by exact (de_call (h_piles F) hr lamD_hx (da_cons (de_var 3) (da_cons (de_oz de_str) (da_cons (de_oz (de_bin od_mul (de_ob (de_lst (da_cons (de_oz (de_tup (da_cons (de_oz de_str) da_nil))) da_nil))) (de_ob de_int))) da_nil))))))) (de_ob (de_tup (da_cons (de_oz de_str) (da_cons (de_oz de_str) da_nil))))) (dss_one (ds_ret (de_oz de_bl))) dss_nil)
    (dss_cons (ds_if (dt_cmp (od_ne hr.units) (de_zb (de_call (h_piles F) hr hx (da_cons (de_var 3) (da_cons (de_oz de_str) (da_cons (de_oz (de_bin od_mul (de_ob (de_lst (da_cons (de_oz (de_tup (da_cons (de_oz de_str) da_nil))) da_nil))) (de_ob de_int))) da_nil))))) (de_ob (de_bin od_addA (de_ob (de_lst (da_cons (de_oz (de_methO (h_Shelf_numbers F) hr hx (de_var 3) (da_cons (de_oz de_str) da_nil))) da_nil))) (de_ob (de_bin od_mul (de_ob (de_lst (da_cons (de_oz (de_lst da_nil)) da_nil))) (de_ob de_int)))))) (dss_one (ds_ret (de_oz de_bl))) dss_nil)
    (dss_one (ds_if (dt_cmp (od_ne hr.units) (de_ob (de_callBS cs_sort (da_cons (de_zb (de_call (h_ordered F) hr hx (da_cons (de_var 3) (da_cons (de_oz de_str) (da_cons (de_oz (de_bin od_mul (de_ob (de_lst (da_cons (de_oz (de_tup (da_cons (de_oz de_str) (da_cons (de_oz de_str) (da_cons (de_oz de_bl) da_nil))))) da_nil))) (de_ob de_int))) da_nil))))) da_nil) F.z_sorted (by decide +kernel))) (de_ob (de_methO (h_Shelf_numbers F) hr hx (de_var 3) (da_cons (de_oz de_str) da_nil)))) (dss_one (ds_ret (de_oz de_bl))) dss_nil)))))))))))))
    (dss_one (ds_ret (de_oz de_bl))))
end
end K95

set_option Elab.async false
set_option linter.all false
set_option maxRecDepth 100000
set_option maxHeartbeats 1000000
/-! boxes of the program in the store -/
namespace K95
open PySem Mir SX L2
/-- a letter in a box: its number, where it stands, the letter, its marks, came, changed -/
structure Row where
  no : Int
  at_ : Nat
  l : D
  m : List Str
  c : Int
  h : Int
structure Bx where
  bx : Nat
  en : Nat
  go : Nat
  st : Int
  nx : Int
  sp : Int
  es : List Row
  gn : List (Key × D)
def mD (m : List Str) : List D := m.map D.str
def boxF (B : Bx) : List (Str × D) := [("stamp", .int B.st), ("coming", .int B.nx), ("step", .int B.sp), ("entries", .obj B.en), ("gone", .obj B.go)]
def boxO (B : Bx) : Ob := .ins "Box" (boxF B)
def entF (r : Row) : List (Str × D) := [("letter", r.l), ("marks", .tup (mD r.m)), ("came", .int r.c), ("changed", .int r.h)]
def entO (r : Row) : Ob := .ins "Entry" (entF r)
def Bx.enK (B : Bx) : List (Key × D) := B.es.map fun r => (Sum.inl r.no, .obj r.at_)
def Bx.keys (B : Bx) : List Int := B.es.map (·.no)
def Bx.fp (B : Bx) : List Nat := B.bx :: B.en :: B.go :: B.es.map (·.at_)
structure Bx.Ok (B : Bx) : Prop where
  ris : B.keys.Pairwise (· < ·)
  lt : ∀ k ∈ B.keys, 1 ≤ k ∧ k < B.nx
  few : B.es.length < 100000
  fgn : B.gn.length < 100000
/-- the program's box -/
structure PB (s : Sto) (B : Bx) : Prop where
  bx : s[B.bx]? = some (boxO B)
  en : s[B.en]? = some (.dct B.enK)
  go : s[B.go]? = some (.dct B.gn)
  es : ∀ r ∈ B.es, s[r.at_]? = some (entO r)
  nd : B.fp.Nodup
section
variable {s s' : Sto} {B : Bx}
theorem PB.fr {F : List Nat} (h : PB s B) (f : Fr F s s') (hF : ∀ n ∈ B.fp, n ∉ F) : PB s' B where
  bx := f.at_ h.bx (hF _ (by simp [Bx.fp]))
  en := f.at_ h.en (hF _ (by simp [Bx.fp]))
  go := f.at_ h.go (hF _ (by simp [Bx.fp]))
  es := fun r hr => f.at_ (h.es r hr) (hF _ (by simp [Bx.fp]; exact .inr (.inr (.inr ⟨r, hr, rfl⟩))))
  nd := h.nd
theorem PB.lt (h : PB s B) : ∀ n ∈ B.fp, n < s.length := fun n hn => by
  simp only [Bx.fp, List.mem_cons, List.mem_map] at hn
  rcases hn with rfl | rfl | rfl | ⟨r, hr, rfl⟩
  · exact sto_lt h.bx
  · exact sto_lt h.en
  · exact sto_lt h.go
  · exact sto_lt (h.es r hr)
theorem PB.stamp (h : PB s B) : fldO ["Box", "Watch"] "stamp" s (.obj B.bx) = some (.int B.st) := fld_at h.bx (by simp) (by kernel_rfl)
theorem PB.coming (h : PB s B) : fldO ["Box"] "coming" s (.obj B.bx) = some (.int B.nx) := fld_at h.bx (by simp) (by kernel_rfl)
theorem PB.step (h : PB s B) : fldO ["Box"] "step" s (.obj B.bx) = some (.int B.sp) := fld_at h.bx (by simp) (by kernel_rfl)
theorem PB.entries (h : PB s B) : fldO ["Box"] "entries" s (.obj B.bx) = some (.obj B.en) := fld_at h.bx (by simp) (by kernel_rfl)
theorem PB.gone (h : PB s B) : fldO ["Box"] "gone" s (.obj B.bx) = some (.obj B.go) := fld_at h.bx (by simp) (by kernel_rfl)
theorem PB.meth {m : Str} (h : PB s B) (hm : (boxF B).lookup m = none := by kernel_rfl) : isIns "Box" m s (.obj B.bx) = true := isIns_at h.bx hm
theorem ent_letter {r : Row} (h : s[r.at_]? = some (entO r)) : fldO ["Entry", "Facts"] "letter" s (.obj r.at_) = some r.l := fld_at h (by simp) (by kernel_rfl)
theorem ent_marks {r : Row} (h : s[r.at_]? = some (entO r)) : fldO ["Entry", "Facts"] "marks" s (.obj r.at_) = some (.tup (mD r.m)) := fld_at h (by simp) (by kernel_rfl)
theorem ent_came {r : Row} (h : s[r.at_]? = some (entO r)) : fldO ["Entry"] "came" s (.obj r.at_) = some (.int r.c) := fld_at h (by simp) (by kernel_rfl)
theorem ent_changed {r : Row} (h : s[r.at_]? = some (entO r)) : fldO ["Entry", "Facts"] "changed" s (.obj r.at_) = some (.int r.h) := fld_at h (by simp) (by kernel_rfl)
/-! ### its fields are set -/
theorem nd_bx (h : PB s B) : B.bx ≠ B.en ∧ B.bx ≠ B.go ∧ B.en ≠ B.go ∧ (∀ r ∈ B.es, r.at_ ≠ B.bx ∧ r.at_ ≠ B.en ∧ r.at_ ≠ B.go) ∧ (B.es.map (·.at_)).Nodup := by
  have n := h.nd
  simp only [Bx.fp, List.nodup_cons, List.mem_cons, List.mem_map, not_or, not_exists, not_and] at n
  obtain ⟨⟨a1, a2, a3⟩, ⟨b1, b2⟩, c1, d⟩ := n
  exact ⟨a1, a2, b1, fun r hr => ⟨fun e => a3 r hr e, fun e => b2 r hr e, fun e => c1 r hr e⟩, d⟩
theorem PB.setSp (h : PB s B) (v : Int) : ∃ s1, setFld ["Box"] "step" (.int v) s (.obj B.bx) = some s1 ∧ PB s1 { B with sp := v } ∧ Fr [B.bx] s s1 := by
  obtain ⟨n1, n2, n3, n4, n5⟩ := nd_bx h
  have e : putFD "step" (.int v) (boxF B) = boxF { B with sp := v } := by kernel_rfl
  refine ⟨s.set B.bx (boxO { B with sp := v }), (setFld_at h.bx (by simp) (by show 5 < 1000; decide)).trans (by rw [e]; rfl), ⟨sto_set h.bx, ?_, ?_, fun r hr => ?_, h.nd⟩, Fr.set⟩
  · exact (List.getElem?_set_ne n1).trans h.en
  · exact (List.getElem?_set_ne n2).trans h.go
  · exact (List.getElem?_set_ne (n4 r hr).1.symm).trans (h.es r hr)
theorem PB.setNx (h : PB s B) (v : Int) : ∃ s1, setFld ["Box"] "coming" (.int v) s (.obj B.bx) = some s1 ∧ PB s1 { B with nx := v } ∧ Fr [B.bx] s s1 := by
  obtain ⟨n1, n2, n3, n4, n5⟩ := nd_bx h
  have e : putFD "coming" (.int v) (boxF B) = boxF { B with nx := v } := by kernel_rfl
  refine ⟨s.set B.bx (boxO { B with nx := v }), (setFld_at h.bx (by simp) (by show 5 < 1000; decide)).trans (by rw [e]; rfl), ⟨sto_set h.bx, ?_, ?_, fun r hr => ?_, h.nd⟩, Fr.set⟩
  · exact (List.getElem?_set_ne n1).trans h.en
  · exact (List.getElem?_set_ne n2).trans h.go
  · exact (List.getElem?_set_ne (n4 r hr).1.symm).trans (h.es r hr)
/-! ### its entries are read -/
theorem PB.dct (h : PB s B) : dctAt s (.obj B.en) = some B.enK := dct_at h.en
theorem enK_get {k : Int} : (∃ r ∈ B.es, r.no = k ∧ dGet B.enK (.inl k) = some (.obj r.at_)) ∨ (k ∉ B.keys ∧ dGet B.enK (.inl k) = none) := by
  rcases dGet_map (f := fun r : Row => (Sum.inl r.no : Key)) (g := fun r => D.obj r.at_) (k := .inl k) (l := B.es) with ⟨r, h1, h2, h3⟩ | ⟨h1, h2⟩
  · exact .inl ⟨r, h1, Sum.inl.inj h2, h3⟩
  · refine .inr ⟨fun hk => ?_, h2⟩
    obtain ⟨r, hr, e⟩ := List.mem_map.mp hk
    exact h1 r hr (by rw [e])
theorem PB.inE (h : PB s B) (k : Int) : inS2 false s (.int k) (.obj B.en) = some (.bl (decide (k ∈ B.keys))) ∧ inS2 true s (.int k) (.obj B.en) = some (.bl (!decide (k ∈ B.keys))) := by
  obtain ⟨a, b⟩ := in_dct (k := .int k) h.dct rfl
  rw [a, b]
  rcases enK_get (B := B) (k := k) with ⟨r, h1, h2, h3⟩ | ⟨h1, h2⟩
  · have : k ∈ B.keys := List.mem_map.mpr ⟨r, h1, h2⟩
    rw [h3, decide_eq_true this]
    exact ⟨rfl, rfl⟩
  · rw [h2, decide_eq_false h1]
    exact ⟨rfl, rfl⟩
theorem row_uniq (o : B.Ok) {r r' : Row} (h : r ∈ B.es) (h' : r' ∈ B.es) (e : r.no = r'.no) : r = r' := by
  have p := o.ris
  unfold Bx.keys at p
  obtain ⟨i, hi, rfl⟩ := List.mem_iff_getElem.mp h
  obtain ⟨j, hj, rfl⟩ := List.mem_iff_getElem.mp h'
  rw [List.pairwise_map] at p
  rcases Nat.lt_trichotomy i j with q | q | q
  · have := List.pairwise_iff_getElem.mp p i j hi hj q; omega
  · subst q; rfl
  · have := List.pairwise_iff_getElem.mp p j i hj hi q; omega
theorem PB.row (h : PB s B) (o : B.Ok) {r : Row} (hr : r ∈ B.es) : ixS s (.obj B.en) (.int r.no) = some (.obj r.at_) := by
  rw [ix_dct h.dct (rfl : keyD (.int r.no) = some (.inl r.no))]
  rcases enK_get (B := B) (k := r.no) with ⟨r', h1, h2, h3⟩ | ⟨h1, h2⟩
  · rw [h3, row_uniq o h1 hr h2]
  · exact absurd (List.mem_map.mpr ⟨r, hr, rfl⟩) h1
theorem sortI_id : ∀ {l : List Int}, l.Pairwise (· < ·) → sortI l = l := fun {l} h => (sortI_uniq (.refl l) (h.imp fun q => Int.le_of_lt q)).symm
theorem sortK_ints {l : List Int} (h : l.Pairwise (· < ·)) : sortK (l.map Sum.inl) = some (l.map Sum.inl) := by rw [sortK_int, sortI_id h]
theorem map_kD (l : List Int) : (l.map (Sum.inl : Int → Key)).map kD = l.map D.int := by rw [List.map_map]; rfl
theorem enK_keys : B.enK.map (·.1) = B.keys.map Sum.inl := by
  unfold Bx.enK Bx.keys
  rw [List.map_map, List.map_map]
  rfl
theorem PB.sorted (h : PB s B) (o : B.Ok) : sortS3 s [.obj B.en] = some (.lst (B.keys.map D.int)) := by
  have hq : seqL s (.obj B.en) = none := by
    show (match s[B.en]? with | some (.lst xs) => some xs | _ => none) = _
    rw [h.en]
  have hk : keysOfS s (.obj B.en) = some (B.keys.map Sum.inl) := by
    unfold keysOfS
    rw [hq, h.dct]
    show some (B.enK.map (·.1)) = _
    rw [enK_keys]
  show (keysOfS s (.obj B.en)).bind _ = _
  rw [hk]
  show (if small (B.keys.map (Sum.inl : Int → Key)).length = true then (sortK (B.keys.map Sum.inl)).map (fun ys => D.lst (ys.map kD)) else none) = _
  rw [if_pos (small_of (by rw [List.length_map]; unfold Bx.keys; rw [List.length_map]; have := o.few; omega)), sortK_ints o.ris]
  show some (D.lst ((B.keys.map Sum.inl).map kD)) = _
  rw [map_kD]
end
end K95

set_option Elab.async false
set_option linter.all false
set_option maxRecDepth 100000
set_option maxHeartbeats 1000000
namespace K95
open PySem Mir SX L2
local macro_rules | `(tactic| walk_at "wp") => `(tactic| simp -dsimp (disch := first | omega | assumption | (simp only [List.length_cons, List.length_nil, List.length_append, List.length_map]; omega)) only [*, ↓wp_eAnd, ↓wp_eOr, ↓wp_ch, ↓wp_c, ↓wp_var, ↓wp_e1, ↓wp_e2, ↓wp_eN, ↓wp_cons, ↓wp_nil, ↓wp_call, ↓wp_mt, ↓wp_sl, ↓wp_oNone, ↓wp_oSome, ↓wp_tB1, ↓wp_tNot, ↓wp_tAnd, ↓wp_tOr, ↓wp_eIf, ↓wp_told, ↓wp_next, ↓wp_raise, ↓wp_seq, ↓wp_expr, ↓wp_set, ↓wp_setO, ↓wp_setI, ↓wp_retS, ↓wp_retN, ↓wp_break, ↓wp_cont, ↓wp_if, ↓wp_app, ↓wp_asg, ↓wp_fn, ↓wp_for, ↓wp_iLst, ↓wp_iTpl, ↓wp_iN, ↓wp_iStr, ↓wp_tYes, ↓wp_ret,
  ↓wp_fld, ↓wp_fldSet, ↓wp_meth, ↓wp_new, ↓wp_sto, ↓wp_disp, ↓wp_e2S, ↓wp_eNS, ↓wp_setS, onN_non, ↓wp_e1S, ↓wp_par2, ↓wp_par3, on2_go, on3_go, ↓wp_get2, ↓wp_pop1, ↓wp_appS, ↓wp_eLock, ↓wp_sLock, ↓wp_end, ↓wp_iKeysD,
  onO_some, onB_bl, onI_int, onL_lst, onT_tup, onS_str, onE_go, onC_t,
  List.map_cons, List.map_nil, List.length_cons, List.length_nil, List.cons_append, List.nil_append, List.replicate, List.getElem?_cons_zero, List.getElem?_cons_succ, List.set_cons_zero, List.set_cons_succ, wipeD, decide_true, decide_false,
  Option.some.injEq, true_and, and_true, if_true, ite_true, if_false, Bool.false_eq_true, reduceIte, ite_false, Bool.not_true, Bool.not_false, Nat.reduceAdd, Nat.reduceSub, Nat.zero_add, Nat.reduceEqDiff])
theorem o_addI (i j : Int) : addDT (.int i) (.int j) = some (.int (i + j)) := rfl
def Bx.there (B : Bx) (ns : List Int) : List Int := B.keys.filter fun k => decide (k ∈ ns)
theorem filter_int (l : List Int) (p : Int → Bool) : ((l.map D.int).filter fun d => match d with | .int k => p k | _ => false) = (l.filter p).map D.int := by
  induction l with
  | nil => rfl
  | cons a l ih =>
    rw [List.map_cons, List.filter_cons, List.filter_cons, ih]
    cases h : p a <;> simp [h]
theorem v_room {s : Sto} {B : Bx} (h : PB s B) {n : Nat} (hn : B.nx + n ≤ 10000) : M_Box_need_room [.obj B.bx, .int n] s = .ok .non s := by
  refine ok_of ?_
  have f1 := h.coming
  have a1 : addDT (.int B.nx) (.int (n : Int)) = some (.int (B.nx + n)) := o_addI _ _
  have a2 : addDT (.int 9999) (.int 1) = some (.int 10000) := by kernel_rfl
  have g1 : gtI (.int (B.nx + n)) (.int 10000) = some (.bl false) := by
    show some (D.bl (decide (10000 < B.nx + n))) = _
    rw [decide_eq_false (by omega)]
  unfold M_Box_need_room b_Box_need_room
  clear h hn
  walk_at "wp"
/-- a new entry -/
theorem v_ent (s : Sto) (l : D) (m : List Str) (c h : Int) : ∀ (Q : D → Sto → Prop) (X : XP), wp (M_Entry___init__ [.obj s.length, l, .tup (mD m), .int c, .int h] (s ++ [.ins "Entry" []])) Q X = Q .non (s ++ [entO ⟨0, s.length, l, m, c, h⟩]) := fun Q X => by
  have e1 : setFld ["Entry", "Facts"] "letter" l (s ++ [.ins "Entry" []]) (.obj s.length) = some (s ++ [.ins "Entry" [("letter", l)]]) := by
    rw [setFld_at sto_new (by simp) (by decide), sto_setNew]; rfl
  have e2 : setFld ["Entry", "Facts"] "marks" (.tup (mD m)) (s ++ [.ins "Entry" [("letter", l)]]) (.obj s.length) = some (s ++ [.ins "Entry" [("letter", l), ("marks", .tup (mD m))]]) := by
    rw [setFld_at sto_new (by simp) (by show 1 < 1000; decide), sto_setNew]; rfl
  have e3 : setFld ["Entry"] "came" (.int c) (s ++ [.ins "Entry" [("letter", l), ("marks", .tup (mD m))]]) (.obj s.length) = some (s ++ [.ins "Entry" [("letter", l), ("marks", .tup (mD m)), ("came", .int c)]]) := by
    rw [setFld_at sto_new (by simp) (by show 2 < 1000; decide), sto_setNew]; rfl
  have e4 : setFld ["Entry", "Facts"] "changed" (.int h) (s ++ [.ins "Entry" [("letter", l), ("marks", .tup (mD m)), ("came", .int c)]]) (.obj s.length) = some (s ++ [entO ⟨0, s.length, l, m, c, h⟩]) := by
    rw [setFld_at sto_new (by simp) (by show 3 < 1000; decide), sto_setNew]; rfl
  unfold M_Entry___init__ b_Entry___init__
  walk_at "wp"
end K95

set_option Elab.async false
set_option linter.all false
set_option maxRecDepth 100000
set_option maxHeartbeats 1000000
namespace K95
open PySem Mir SX L2
local macro_rules | `(tactic| walk_at "wp") => `(tactic| simp -dsimp (disch := first | omega | assumption | (simp only [List.length_cons, List.length_nil, List.length_append, List.length_map]; omega)) only [*, ↓wp_eAnd, ↓wp_eOr, ↓wp_ch, ↓wp_c, ↓wp_var, ↓wp_e1, ↓wp_e2, ↓wp_eN, ↓wp_cons, ↓wp_nil, ↓wp_call, ↓wp_mt, ↓wp_sl, ↓wp_oNone, ↓wp_oSome, ↓wp_tB1, ↓wp_tNot, ↓wp_tAnd, ↓wp_tOr, ↓wp_eIf, ↓wp_told, ↓wp_next, ↓wp_raise, ↓wp_seq, ↓wp_expr, ↓wp_set, ↓wp_setO, ↓wp_setI, ↓wp_retS, ↓wp_retN, ↓wp_break, ↓wp_cont, ↓wp_if, ↓wp_app, ↓wp_asg, ↓wp_fn, ↓wp_for, ↓wp_iLst, ↓wp_iTpl, ↓wp_iN, ↓wp_iStr, ↓wp_tYes, ↓wp_ret,
  ↓wp_fld, ↓wp_fldSet, ↓wp_meth, ↓wp_new, ↓wp_sto, ↓wp_disp, ↓wp_e2S, ↓wp_eNS, ↓wp_setS, onN_non, ↓wp_e1S, ↓wp_par2, ↓wp_par3, on2_go, on3_go, ↓wp_get2, ↓wp_pop1, ↓wp_appS, ↓wp_eLock, ↓wp_sLock, ↓wp_end, ↓wp_iKeysD,
  onO_some, onB_bl, onI_int, onL_lst, onT_tup, onS_str, onE_go, onC_t,
  List.map_cons, List.map_nil, List.length_cons, List.length_nil, List.cons_append, List.nil_append, List.replicate, List.getElem?_cons_zero, List.getElem?_cons_succ, List.set_cons_zero, List.set_cons_succ, wipeD, decide_true, decide_false,
  Option.some.injEq, true_and, and_true, if_true, ite_true, if_false, Bool.false_eq_true, reduceIte, ite_false, Bool.not_true, Bool.not_false, Nat.reduceAdd, Nat.reduceSub, Nat.zero_add, Nat.reduceEqDiff])
theorem PB.addRow {s : Sto} {B : Bx} {r : Row} (h : PB s B) (o : B.Ok) (hn : r.no = B.nx) (ha : r.at_ = s.length) : ∃ s2, setS (s ++ [entO r]) (.obj B.en) (.int B.nx) (.obj s.length) = some s2 ∧ PB s2 { B with es := B.es ++ [r] } ∧ Fr [B.en] s s2 ∧ s2.length = s.length + 1 := by
  obtain ⟨n1, n2, n3, n4, n5⟩ := nd_bx h
  have h1 : PB (s ++ [entO r]) B := h.fr (Fr.app (F := [])) (fun _ _ z => by cases z)
  have hnew : ∀ q ∈ B.es, (Sum.inl q.no : Key) ≠ .inl B.nx := fun q hq e => by
    have := (o.lt q.no (List.mem_map.mpr ⟨q, hq, rfl⟩)).2
    have := Sum.inl.inj e
    omega
  have e := dPut_new (f := fun r : Row => (Sum.inl r.no : Key)) (g := fun r => D.obj r.at_) (k := .inl B.nx) (v := .obj s.length) hnew
  have hl : B.enK.length < 16777216 := by unfold Bx.enK; rw [List.length_map]; have := o.few; omega
  have hlt : ∀ n ∈ B.fp, n < s.length := h.lt
  have hat : (s ++ [entO r])[r.at_]? = some (entO r) := by rw [ha]; exact sto_new
  refine ⟨_, set_dct h1.en rfl hl, ⟨?_, ?_, ?_, fun q hq => ?_, ?_⟩, ?_, by rw [List.length_set, List.length_append]; rfl⟩
  · exact (List.getElem?_set_ne n1.symm).trans h1.bx
  · refine (sto_set h1.en).trans ?_
    show some (Ob.dct (dPut (B.es.map fun r => (Sum.inl r.no, D.obj r.at_)) (.inl B.nx) (.obj s.length))) = _
    rw [e]
    show _ = some (Ob.dct ((B.es ++ [r]).map fun r => (Sum.inl r.no, D.obj r.at_)))
    rw [List.map_append, List.map_cons, List.map_nil, hn, ha]
  · exact (List.getElem?_set_ne n3).trans h1.go
  · rcases List.mem_append.mp hq with hq | hq
    · exact (List.getElem?_set_ne (n4 q hq).2.1.symm).trans (h1.es q hq)
    · rw [List.mem_singleton.mp hq]
      refine (List.getElem?_set_ne ?_).trans hat
      have := hlt B.en (by simp [Bx.fp])
      omega
  · show (B.bx :: B.en :: B.go :: (B.es ++ [r]).map (·.at_)).Nodup
    have e2 : (B.bx :: B.en :: B.go :: (B.es ++ [r]).map (·.at_)) = B.fp ++ [r.at_] := by simp [Bx.fp]
    rw [e2, List.nodup_append]
    refine ⟨h.nd, by simp, fun a ha' b hb => ?_⟩
    rw [List.mem_singleton.mp hb, ha]
    exact Nat.ne_of_lt (hlt a ha')
  · exact (Fr.app (F := [B.en])).trans Fr.set
theorem Bx.Ok.addRow {B : Bx} {r : Row} (o : B.Ok) (hn : r.no = B.nx) (h1 : 1 ≤ B.nx) (hf : B.es.length + 1 < 100000) : Bx.Ok { B with es := B.es ++ [r], nx := B.nx + 1 } := by
  have e : Bx.keys { B with es := B.es ++ [r], nx := B.nx + 1 } = B.keys ++ [B.nx] := by
    show (B.es ++ [r]).map (·.no) = _
    rw [List.map_append, List.map_cons, List.map_nil, hn]
    rfl
  refine ⟨?_, ?_, ?_, o.fgn⟩
  · rw [e, List.pairwise_append]
    refine ⟨o.ris, List.pairwise_singleton _ _, fun a ha b hb => ?_⟩
    rw [List.mem_singleton.mp hb]
    exact (o.lt a ha).2
  · rw [e]
    intro k hk
    show 1 ≤ k ∧ k < B.nx + 1
    rcases List.mem_append.mp hk with hk | hk
    · have := o.lt k hk; omega
    · rw [List.mem_singleton.mp hk]; omega
  · show (B.es ++ [r]).length < _
    rw [List.length_append]; exact hf
/-- rows that are added -/
def addR (nx : Int) (base : Nat) (sp : Int) : List (D × List Str) → List Row
  | [] => []
  | p :: ps => ⟨nx, base, p.1, p.2, sp, sp⟩ :: addR (nx + 1) (base + 1) sp ps
def numR (nx : Int) : Nat → List Int
  | 0 => []
  | n + 1 => nx :: numR (nx + 1) n
def pD (p : D × List Str) : D := .tup [p.1, .tup (mD p.2)]
def addB : SD := (sSeq (sSetS (eFld ["Box"] "entries" (eVar 0)) (eFld ["Box"] "coming" (eVar 0)) (eNew "Entry" M_Entry___init__ (aCons (eVar 3) (aCons (eVar 4) (aCons (eFld ["Box"] "step" (eVar 0)) (aCons (eFld ["Box"] "step" (eVar 0)) aNil))))))
    (sSeq (sApp 2 (eFld ["Box"] "coming" (eVar 0)))
    (sFldSet ["Box"] "coming" (eVar 0) (e2 addDT (eFld ["Box"] "coming" (eVar 0)) (eC (.int 1))))))
theorem add_body {s : Sto} {B : Bx} {l : D} {m : List Str} {x1 : Option D} {fs : List D} (h : PB s B) (o : B.Ok) (h1 : 1 ≤ B.nx) (hz : fs.length < 100000) (hf : B.es.length + 1 < 100000) :
    ∃ s', addB [some (.obj B.bx), x1, some (.lst fs), some l, some (.tup (mD m))] s = .ok (.nx [some (.obj B.bx), x1, some (.lst (fs ++ [.int B.nx])), some l, some (.tup (mD m))]) s' ∧ PB s' { B with es := B.es ++ [⟨B.nx, s.length, l, m, B.sp, B.sp⟩], nx := B.nx + 1 } ∧ Fr [B.bx, B.en] s s' ∧ s'.length = s.length + 1 := by
  obtain ⟨s2, e2, P2, F2, L2'⟩ := h.addRow (r := ⟨B.nx, s.length, l, m, B.sp, B.sp⟩) o rfl rfl
  obtain ⟨s3, e3, P3, F3⟩ := P2.setNx (B.nx + 1)
  have hl3 : s3.length = s2.length := by
    have e9 : s3 = s2.set B.bx (boxO { B with es := B.es ++ [⟨B.nx, s.length, l, m, B.sp, B.sp⟩], nx := B.nx + 1 }) := by
      have q := setFld_at (n := "coming") (v := .int (B.nx + 1)) P2.bx (cs := ["Box"]) (by simp) (by show 5 < 1000; decide)
      rw [e3] at q
      have q := Option.some.inj q
      rw [q]
      rfl
    rw [e9, List.length_set]
  refine ⟨s3, ok_of ?_, P3, ?_, by rw [hl3, L2']⟩
  · have P1 : PB (s ++ [entO ⟨B.nx, s.length, l, m, B.sp, B.sp⟩]) B := h.fr (Fr.app (F := [])) (fun _ _ z => by cases z)
    have a1 := h.step
    have a2 := v_ent s l m B.sp B.sp
    have a3 : entO ⟨0, s.length, l, m, B.sp, B.sp⟩ = entO ⟨B.nx, s.length, l, m, B.sp, B.sp⟩ := rfl
    rw [a3] at a2
    have b1 := P1.entries
    have b2 := P1.coming
    have c1 := P2.coming
    have sm : small (fs.length + 1) = true := small_of (by omega)
    have ad := o_addI B.nx 1
    generalize (s ++ [entO ⟨B.nx, s.length, l, m, B.sp, B.sp⟩]) = s1 at *
    have c1 : fldO ["Box"] "coming" s2 (.obj B.bx) = some (.int B.nx) := c1
    have e3 : setFld ["Box"] "coming" (.int (B.nx + 1)) s2 (.obj B.bx) = some s3 := e3
    clear P1 P2 P3 F2 F3 L2' hl3 a3 h o h1 hz hf
    unfold addB
    walk_at "wp"
  · exact (F2.mono fun n hn _ => by simp at hn; simp [hn]).trans (F3.mono fun n hn _ => by simp at hn; simp [hn])
theorem add_loop : ∀ (ps : List (D × List Str)) (B : Bx) (s : Sto) (fs : List D) (x1 x3 x4 : Option D), PB s B → B.Ok → 1 ≤ B.nx → fs.length + ps.length < 100000 → B.es.length + ps.length < 100000 →
    ∃ s' x3' x4', forGo (gTp 2 (gsCons (gNm 3) (gsCons (gNm 4) gsNil))) addB (ps.map pD) [some (.obj B.bx), x1, some (.lst fs), x3, x4] s = .ok (.nx [some (.obj B.bx), x1, some (.lst (fs ++ (numR B.nx ps.length).map D.int)), x3', x4']) s' ∧ PB s' { B with es := B.es ++ addR B.nx s.length B.sp ps, nx := B.nx + ps.length } ∧ Bx.Ok { B with es := B.es ++ addR B.nx s.length B.sp ps, nx := B.nx + ps.length } ∧ Fr [B.bx, B.en] s s' ∧ s'.length = s.length + ps.length
  | [], B, s, fs, x1, x3, x4, h, o, h1, hz, hf => by
    refine ⟨s, x3, x4, ?_, ?_, ?_, Fr.refl _ _, rfl⟩
    · simp [numR]; rfl
    · have e : ({ B with es := B.es ++ addR B.nx s.length B.sp [], nx := B.nx + (([] : List (D × List Str)).length : Int) } : Bx) = B := by simp [addR]
      rw [e]; exact h
    · have e : ({ B with es := B.es ++ addR B.nx s.length B.sp [], nx := B.nx + (([] : List (D × List Str)).length : Int) } : Bx) = B := by simp [addR]
      rw [e]; exact o
  | p :: ps, B, s, fs, x1, x3, x4, h, o, h1, hz, hf => by
    simp only [List.length_cons] at hz hf
    obtain ⟨s1, e1, P1, F1, L1⟩ := add_body (l := p.1) (m := p.2) (x1 := x1) (fs := fs) h o h1 (by omega) (by omega)
    have o1 := o.addRow (r := ⟨B.nx, s.length, p.1, p.2, B.sp, B.sp⟩) rfl h1 (by omega)
    obtain ⟨s2, y3, y4, e2, P2, o2, F2, L2'⟩ := add_loop ps { B with es := B.es ++ [⟨B.nx, s.length, p.1, p.2, B.sp, B.sp⟩], nx := B.nx + 1 } s1 (fs ++ [.int B.nx]) x1 (some p.1) (some (.tup (mD p.2))) P1 o1 (by show 1 ≤ B.nx + 1; omega) (by rw [List.length_append]; simp; omega) (by show (B.es ++ [_]).length + _ < _; rw [List.length_append]; simp; omega)
    have eB : ({ B with es := (B.es ++ [⟨B.nx, s.length, p.1, p.2, B.sp, B.sp⟩]) ++ addR (B.nx + 1) s1.length B.sp ps, nx := (B.nx + 1) + (ps.length : Int) } : Bx) = { B with es := B.es ++ addR B.nx s.length B.sp (p :: ps), nx := B.nx + ((p :: ps).length : Int) } := by
      rw [L1]
      have : B.nx + 1 + (ps.length : Int) = B.nx + ((p :: ps).length : Int) := by simp; omega
      rw [this]
      simp [addR]
    refine ⟨s2, y3, y4, ?_, ?_, ?_, F1.trans F2, by rw [L2', L1]; simp; omega⟩
    · rw [List.map_cons]
      unfold forGo
      show ((addB [some (.obj B.bx), x1, some (.lst fs), some p.1, some (.tup (mD p.2))] s).bind _) = _
      rw [e1]
      show forGo (gTp 2 (gsCons (gNm 3) (gsCons (gNm 4) gsNil))) addB (ps.map pD) _ s1 = _
      rw [e2]
      simp [numR]
    · rw [← eB]; exact P2
    · rw [← eB]; exact o2
end K95

set_option Elab.async false
set_option linter.all false
set_option maxRecDepth 100000
set_option maxHeartbeats 1000000
namespace K95
open PySem Mir SX L2
local macro_rules | `(tactic| walk_at "wp") => `(tactic| simp -dsimp (disch := first | omega | assumption | (simp only [List.length_cons, List.length_nil, List.length_append, List.length_map]; omega)) only [*, ↓wp_eAnd, ↓wp_eOr, ↓wp_ch, ↓wp_c, ↓wp_var, ↓wp_e1, ↓wp_e2, ↓wp_eN, ↓wp_cons, ↓wp_nil, ↓wp_call, ↓wp_mt, ↓wp_sl, ↓wp_oNone, ↓wp_oSome, ↓wp_tB1, ↓wp_tNot, ↓wp_tAnd, ↓wp_tOr, ↓wp_eIf, ↓wp_told, ↓wp_next, ↓wp_raise, ↓wp_seq, ↓wp_expr, ↓wp_set, ↓wp_setO, ↓wp_setI, ↓wp_retS, ↓wp_retN, ↓wp_break, ↓wp_cont, ↓wp_if, ↓wp_app, ↓wp_asg, ↓wp_fn, ↓wp_for, ↓wp_iLst, ↓wp_iTpl, ↓wp_iN, ↓wp_iStr, ↓wp_tYes, ↓wp_ret,
  ↓wp_fld, ↓wp_fldSet, ↓wp_meth, ↓wp_new, ↓wp_sto, ↓wp_disp, ↓wp_e2S, ↓wp_eNS, ↓wp_setS, onN_non, ↓wp_ok, ↓wp_exc, ↓wp_e1S, ↓wp_par2, ↓wp_par3, on2_go, on3_go, ↓wp_get2, ↓wp_pop1, ↓wp_appS, ↓wp_eLock, ↓wp_sLock, ↓wp_end, ↓wp_iKeysD,
  onO_some, onB_bl, onI_int, onL_lst, onT_tup, onS_str, onE_go, onC_t,
  List.map_cons, List.map_nil, List.length_cons, List.length_nil, List.cons_append, List.nil_append, List.replicate, List.getElem?_cons_zero, List.getElem?_cons_succ, List.set_cons_zero, List.set_cons_succ, wipeD, decide_true, decide_false,
  Option.some.injEq, true_and, and_true, if_true, ite_true, if_false, Bool.false_eq_true, reduceIte, ite_false, Bool.not_true, Bool.not_false, Nat.reduceAdd, Nat.reduceSub, Nat.zero_add, Nat.reduceEqDiff])
/-- letters and marks that are plain -/
def MOk (m : List Str) : Prop := ∀ x ∈ m, PyData.strOk x = true
def POk (p : D × List Str) : Prop := Pl 10 p.1 ∧ MOk p.2
theorem mD_pl {n : Nat} {m : List Str} (h : MOk m) : Pls n (mD m) := Pls.map fun x hx => Pl.str n (h x hx)
theorem pD_pl {p : D × List Str} (h : POk p) : Pl 12 (pD p) := Pl.tup (Pls.cons (h.1.mono (by decide)) (Pls.cons (Pl.tup (n := 10) (mD_pl h.2)) (Pls.nil _)))
def Bx.add (B : Bx) (base : Nat) (ps : List (D × List Str)) : Bx := { B with es := B.es ++ addR B.nx base (B.sp + if ps.isEmpty then 0 else 1) ps, nx := B.nx + ps.length, sp := B.sp + if ps.isEmpty then 0 else 1 }
theorem b_addE : b_Box_add_all = sSeq (sExpr (eMeth "Box" "need_room" M_Box_need_room (eVar 0) (aCons (eNS lenS (aCons (eVar 1) aNil)) aNil))) (sSeq (sSetO 2 (eN mkL aNil)) (sSeq (sFldSet ["Box"] "step" (eVar 0) (e2 addDT (eFld ["Box"] "step" (eVar 0)) (eN intD (aCons (e2 neD (eVar 1) (eN mkL aNil)) aNil)))) (sSeq (sFor (iLst (eVar 1)) (gTp 2 (gsCons (gNm 3) (gsCons (gNm 4) gsNil))) addB) (sRet (eVar 2))))) := rfl
theorem int_bl (b : Bool) : intD [.bl b] = some (.int (if b then 1 else 0)) := by cases b <;> rfl
theorem lenS_lst (s : Sto) (xs : List D) (h : xs.length ≤ 1000000) : lenS s [.lst xs] = some (.int xs.length) := by
  first | rfl | exact orS_l rfl
theorem v_add {s : Sto} {B : Bx} (h : PB s B) (o : B.Ok) (ps : List (D × List Str)) (hp : ∀ p ∈ ps, POk p) (h1 : 1 ≤ B.nx) (hr : B.nx + ps.length ≤ 10000) (hf : B.es.length + ps.length < 100000) :
    ∃ s', M_Box_add_all [.obj B.bx, .lst (ps.map pD)] s = .ok (.lst ((numR B.nx ps.length).map D.int)) s' ∧ PB s' (B.add s.length ps) ∧ (B.add s.length ps).Ok ∧ Fr [B.bx, B.en] s s' ∧ s'.length = s.length + ps.length := by
  have hl : ps.length ≤ 10000 := by omega
  have e0 := wp_of (v_room h hr)
  have e1 : lenS s [.lst (ps.map pD)] = some (.int ps.length) := by
    have := lenS_lst s (ps.map pD) (by rw [List.length_map]; omega)
    rwa [List.length_map] at this
  have e2 : neD (.lst (ps.map pD)) (.lst []) = some (.bl (!ps.isEmpty)) := by
    have := (ne_nil (n := 12) (Pls.map fun p hq => pD_pl (hp p hq)) (by decide)).2
    rwa [isEmpty_map] at this
  have e3 : intD [.bl (!ps.isEmpty)] = some (.int (if ps.isEmpty then 0 else 1)) := by cases ps.isEmpty <;> rfl
  have e4 := o_addI B.sp (if ps.isEmpty then 0 else 1)
  have e5 := h.step
  have e6 := h.meth (m := "need_room")
  obtain ⟨s1, e7, P1, F1⟩ := h.setSp (B.sp + if ps.isEmpty then 0 else 1)
  have hl1 : s1.length = s.length := by
    have q := setFld_at (n := "step") (v := .int (B.sp + if ps.isEmpty then 0 else 1)) h.bx (cs := ["Box"]) (by simp) (by show 5 < 1000; decide)
    rw [e7] at q
    rw [Option.some.inj q, List.length_set]
  obtain ⟨s2, y3, y4, e8, P2, o2, F2, L2'⟩ := add_loop ps { B with sp := B.sp + if ps.isEmpty then 0 else 1 } s1 [] (some (.lst (ps.map pD))) none none P1 ⟨o.ris, o.lt, o.few, o.fgn⟩ h1 (by simp; omega) hf
  rw [hl1] at P2 o2 L2'
  refine ⟨s2, ok_of ?_, P2, o2, (F1.mono fun n hn _ => by simp at hn; simp [hn]).trans F2, L2'⟩
  have e8 := wp_of e8
  have c1 : isCt (.lst []) = true := rfl
  have m1 : mkL [] = some (.lst []) := rfl
  unfold M_Box_add_all
  rw [b_addE]
  rw [List.nil_append] at e8
  clear h o hp P1 F1 P2 o2 F2 L2' hl1 hl hr hf
  walk_at "wp"
end K95

set_option Elab.async false
set_option linter.all false
set_option maxRecDepth 100000
set_option maxHeartbeats 2000000
/-! what the law draws -/
namespace K95
open PySem Mir SX
local macro_rules | `(tactic| walk_at "wp") => `(tactic| simp -dsimp (disch := first | omega | assumption | (simp only [List.length_cons, List.length_nil, List.length_append, List.length_map]; omega)) only [*, ↓wp_eAnd, ↓wp_eOr, ↓wp_ch, ↓wp_c, ↓wp_var, ↓wp_e1, ↓wp_e2, ↓wp_eN, ↓wp_cons, ↓wp_nil, ↓wp_call, ↓wp_mt, ↓wp_sl, ↓wp_oNone, ↓wp_oSome, ↓wp_tB1, ↓wp_tNot, ↓wp_tAnd, ↓wp_tOr, ↓wp_eIf, ↓wp_told, ↓wp_next, ↓wp_raise, ↓wp_seq, ↓wp_expr, ↓wp_set, ↓wp_setO, ↓wp_setI, ↓wp_retS, ↓wp_retN, ↓wp_break, ↓wp_cont, ↓wp_if, ↓wp_app, ↓wp_asg, ↓wp_fn, ↓wp_for, ↓wp_iLst, ↓wp_iTpl, ↓wp_iN, ↓wp_iStr, ↓wp_tYes, ↓wp_ret,
  ↓wp_fld, ↓wp_fldSet, ↓wp_meth, ↓wp_new, ↓wp_sto, ↓wp_disp, ↓wp_e2S, ↓wp_eNS, ↓wp_setS, onN_non, ↓wp_ok, ↓wp_exc, ↓wp_e1S, ↓wp_par2, ↓wp_par3, on2_go, on3_go, ↓wp_get2, ↓wp_pop1, ↓wp_appS, ↓wp_eLock, ↓wp_sLock, ↓wp_end, ↓wp_iKeysD,
  onO_some, onB_bl, onI_int, onL_lst, onT_tup, onS_str, onE_go, onC_t,
  List.map_cons, List.map_nil, List.length_cons, List.length_nil, List.cons_append, List.nil_append, List.replicate, List.getElem?_cons_zero, List.getElem?_cons_succ, List.set_cons_zero, List.set_cons_succ, wipeD, decide_true, decide_false,
  Option.some.injEq, true_and, and_true, if_true, ite_true, if_false, Bool.false_eq_true, reduceIte, ite_false, Bool.not_true, Bool.not_false, Nat.reduceAdd, Nat.reduceSub, Nat.zero_add, Nat.reduceEqDiff])
abbrev BB : Int := 340282366920938463463374607431768211507
theorem v_drawn (cell k : Int) (h1 : 0 ≤ k) (h2 : k < 1000000) : VF M__law_drawn [.int cell, .int k] (.int (drawn cell k)) := by
  unfold M__law_drawn b__law_drawn
  have m1 : 0 ≤ (cell * 6364136223846793005 + (k + 1) * 1442695040888963407) % BB := Int.emod_nonneg _ (by decide)
  have m2 : (cell * 6364136223846793005 + (k + 1) * 1442695040888963407) % BB < BB := Int.emod_lt_of_pos _ (by decide)
  generalize hm : (cell * 6364136223846793005 + (k + 1) * 1442695040888963407) % BB = m at m1 m2
  have n1 : 0 ≤ m * m % 340282366920938463463374607431768211297 := Int.emod_nonneg _ (by decide)
  have n2 : m * m % 340282366920938463463374607431768211297 < 340282366920938463463374607431768211297 := Int.emod_lt_of_pos _ (by decide)
  generalize hn : m * m % 340282366920938463463374607431768211297 = n at n1 n2
  have p1 : 0 ≤ n % 18446744073709551557 := Int.emod_nonneg _ (by decide)
  have p2 : n % 18446744073709551557 < 18446744073709551557 := Int.emod_lt_of_pos _ (by decide)
  have q1 : 0 ≤ n / 18446744073709551557 := Int.ediv_nonneg n1 (by decide)
  have q2 : n / 18446744073709551557 ≤ n := Int.ediv_le_self _ n1
  have r1 : 0 ≤ (n % 18446744073709551557 + 1) * (n / 18446744073709551557 + 1) := Int.mul_nonneg (by omega) (by omega)
  have r2 : (n % 18446744073709551557 + 1) * (n / 18446744073709551557 + 1) < 2 ^ 250 := by
    have : (n % 18446744073709551557 + 1) * (n / 18446744073709551557 + 1) ≤ 18446744073709551557 * 340282366920938463463374607431768211297 := Int.mul_le_mul (by omega) (by omega) (by omega) (by decide)
    exact Int.lt_of_le_of_lt this (by decide)
  refine VF.mk rfl (VS.seq (VS.set (V1.e2 (V1.e2 (V1.e2 (V1.var rfl) V1.c (o_mul (mulOk_r (by decide) (by decide)))) (V1.e2 (V1.e2 (V1.var rfl) V1.c (o_add _ _)) V1.c (o_mul (mulOk_r (by decide) (by decide)))) (o_add _ _)) V1.c (o_mod (by decide)))) ?_)
  rw [hm]
  refine VS.seq (VS.set (V1.e2 (V1.e2 (V1.var rfl) (V1.var rfl) (o_mul (mulOk_b m1 (Int.lt_trans m2 (by decide)) m1 (Int.lt_trans m2 (by decide))))) V1.c (o_mod (by decide)))) ?_
  rw [hn]
  refine VS.seq (VS.set (V1.e2 (V1.e2 (V1.e2 (V1.e2 (V1.var rfl) V1.c (o_mod (by decide))) V1.c (o_add _ _)) (V1.e2 (V1.e2 (V1.var rfl) V1.c (o_div (by decide +kernel))) V1.c (o_add _ _)) (o_mul (mulOk_b (by omega) (by omega) (by omega) (by omega)))) (V1.var rfl) (o_mul (mulOk_b r1 r2 n1 (Int.lt_trans n2 (by decide)))))) ?_
  have e : drawn cell k = (n % 18446744073709551557 + 1) * (n / 18446744073709551557 + 1) * n % BB := by
    unfold drawn
    dsimp only
    rw [hm, hn]
  rw [e]
  exact VS.ret (V1.e2 (V1.var rfl) V1.c (o_mod (by decide)))
theorem v_cell (ns : List Int) (k : Int) (h0 : 0 ≤ k) (h1 : k < 1000) (hl : ns.length ≤ 63) : ∃ c, VF M__law_cell [.scr ns, .int k] (.int c) := by
  have key : ∃ c, ∀ s, wp (M__law_cell [.scr ns, .int k] s) (fun d s' => d = .int c ∧ s' = s) (fun _ _ => False) := by
    have e0 : mkL [] = some (.lst []) := rfl
    cases ns with
    | nil =>
      have e2 : mulD (.int k) (.int 7919) = some (.int (k * 7919)) := o_mul (mulOk_r (by decide) (by decide))
      have e1 : eqD (.scr []) (.lst []) = some (.bl true) := o_eqScr []
      refine ⟨k * 7919, fun s => ?_⟩
      unfold M__law_cell b__law_cell
      walk_at "wp"
    | cons n ns =>
      have hp : (0 : Int) < ((n :: ns).length : Int) := by simp only [List.length_cons]; omega
      have hd : divOk ((n :: ns).length : Int) = true := by
        unfold divOk
        rw [decide_eq_true hp, decide_eq_true (Nat.lt_of_lt_of_le (log2_lt (k := 64) (by simp only [List.length_cons] at hl ⊢; omega) (by decide)) (by decide))]
        rfl
      have i0 : 0 ≤ k % ((n :: ns).length : Int) := Int.emod_nonneg _ (by omega)
      have i1 : k % ((n :: ns).length : Int) < ((n :: ns).length : Int) := Int.emod_lt_of_pos _ hp
      have e4 : ∀ s, ixS s (.scr (n :: ns)) (.int (k % ((n :: ns).length : Int))) = some (.int ((n :: ns)[(k % ((n :: ns).length : Int)).toNat]'(by omega))) := fun s => by
        show (L2.atI (n :: ns) _).map D.int = _
        rw [atI_get i0 i1]
        rfl
      have e5 : modI (.int k) (.int ((n :: ns).length : Int)) = some (.int (k % ((n :: ns).length : Int))) := o_mod hp
      have e6 : fdivI (.int k) (.int ((n :: ns).length : Int)) = some (.int (k / ((n :: ns).length : Int))) := o_div hd
      have e7 : mulD (.int (k / ((n :: ns).length : Int))) (.int 104729) = some (.int (k / ((n :: ns).length : Int) * 104729)) := o_mul (mulOk_r (by decide) (by decide))
      have e1 : eqD (.scr (n :: ns)) (.lst []) = some (.bl false) := o_eqScr (n :: ns)
      have e8 : ∀ s, lenS s [.scr (n :: ns)] = some (.int ((n :: ns).length : Int)) := fun s => rfl
      generalize ((n :: ns)[(k % ((n :: ns).length : Int)).toNat]'(by omega)) = v at *
      generalize ((n :: ns).length : Int) = L at *
      have e9 := o_add v (k / L * 104729)
      refine ⟨v + k / L * 104729, fun s => ?_⟩
      unfold M__law_cell b__law_cell
      clear hp hd i0 i1 hl h0 h1
      walk_at "wp"
  obtain ⟨c, h⟩ := key
  refine ⟨c, fun s => ?_⟩
  have := h s
  cases e : M__law_cell [.scr ns, .int k] s with
  | ok a s' => rw [e] at this; obtain ⟨h1, h2⟩ := this; rw [h1, h2]
  | exc c s' => rw [e] at this; exact this.elim
  | no => rw [e] at this; exact this.elim
theorem range_small {n : Int} (h0 : 0 ≤ n) (h1 : n ≤ 1000000) : range1D [.int n] = some ((List.range n.toNat).map fun (i : Nat) => D.int (0 + (i : Int))) := by
  show (if rg62 n = true then some ((List.range n.toNat).map fun (i : Nat) => D.int (0 + (i : Int))) else none) = _
  rw [if_pos ?_]
  unfold rg62
  simp only [Bool.and_eq_true, decide_eq_true_eq]
  omega
def sgE : ED := (eLc0 (iN range1D (aCons (e2S ixS (eN mkL (aCons (eC (.int 0)) (aCons (eC (.int 1)) (aCons (eC (.int 5)) (aCons (eC (.int 20)) aNil))))) (e2 modI (eVar 1) (eC (.int 4)))) aNil)) (gNm 5) tYesD (e2S ixS (eVar 2) (e2 modI (eCall M__law_drawn (aCons (eVar 1) (aCons (eVar 5) aNil))) (eNS lenS (aCons (eVar 2) aNil)))) [5])
theorem range_at {n i : Nat} {d : D} (hd : ((List.range n).map fun (i : Nat) => D.int (0 + (i : Int)))[i]? = some d) : i < n ∧ d = .int (i : Int) := by
  have hi : i < n := by
    have := (List.getElem?_eq_some_iff.mp hd).1
    simpa using this
  refine ⟨hi, ?_⟩
  rw [List.getElem?_map, List.getElem?_range hi] at hd
  cases hd
  show D.int (0 + (i : Int)) = _
  rw [Int.zero_add]
theorem cnt_ok {ns : List Int} {n0 : Int} (h0 : 0 ≤ n0) : ∃ n : Nat, n ≤ (if n0 > 1 then n0.toNat else 1) ∧ maxD [.int 1, .int (if (ns.length : Int) < n0 then (ns.length : Int) else n0)] = some (.int n) := by
  refine ⟨(if (if (ns.length : Int) < n0 then (ns.length : Int) else n0) > 1 then (if (ns.length : Int) < n0 then (ns.length : Int) else n0) else 1).toNat, ?_, ?_⟩
  · repeat' split
    all_goals omega
  · rw [Int.toNat_of_nonneg (by split <;> split <;> omega)]
    rfl

theorem ix_list {ds : List D} (i : Int) (h0 : 0 ≤ i) (h1 : i < ds.length) : ∃ d ∈ ds, ∀ s, ixS s (.lst ds) (.int i) = some d := by
  refine ⟨ds[i.toNat]'(by omega), List.getElem_mem _, fun s => ?_⟩
  show L2.atI ds i = _
  rw [atI_get h0 h1]
theorem md {a j : Int} (h : 0 < j) : 0 ≤ a % j ∧ a % j < j := ⟨Int.emod_nonneg _ (by omega), Int.emod_lt_of_pos _ h⟩
def WORDS : List Str := ["seen", "flag", "old", "a", "b", "todo", "zz"]
def wAt (a : Nat) (j : Nat) : Str := WORDS[(a + 2 * j) % 7]'(Nat.lt_of_lt_of_eq (Nat.mod_lt _ (by decide)) rfl)
theorem wAt_eq {a j p : Nat} {hp : p < (mD WORDS).length} (e : p = (a + 2 * j) % 7) : (mD WORDS)[p]'hp = D.str (wAt a j) := by
  subst e
  exact List.getElem_map _
def someM (a n : Nat) : List Str := (List.range n).map (wAt a)
theorem someM_nd : ∀ a : Fin 7, ∀ n : Fin 4, (someM a n).Nodup := by decide +kernel
theorem someM_in (a n : Nat) : ∀ x ∈ someM a n, x ∈ WORDS := fun x hx => by
  obtain ⟨j, _, rfl⟩ := List.mem_map.mp hx
  exact List.getElem_mem _
/-- some different words -/
structure Mk (m : List Str) : Prop where
  len : m.length ≤ 3
  nd : m.Nodup
  wd : ∀ x ∈ m, x ∈ WORDS
def smE : ED := eLc0 (iN range1D (aCons (e2S ixS (eN mkL (aCons (eC (.int 0)) (aCons (eC (.int 1)) (aCons (eC (.int 1)) (aCons (eC (.int 2)) (aCons (eC (.int 3)) aNil)))))) (e2 modI (e2 fdivI (eVar 0) (eC (.int 8))) (eC (.int 5)))) aNil)) (gNm 2) tYesD (e2S ixS (eVar 1) (e2 modI (e2 addDT (eVar 0) (e2 mulD (eC (.int 2)) (eVar 2))) (eC (.int 7)))) [2]
theorem v_someM (more : Int) : ∃ m, Mk m ∧ ∀ s, M__law_some_marks [.int more] s = .ok (.lst (mD m)) s := by
  obtain ⟨m0, m1⟩ := md (a := more) (j := 7) (by decide)
  obtain ⟨d, hd, ed⟩ := ix_list (ds := [.int 0, .int 1, .int 1, .int 2, .int 3]) (more / 8 % 5) (md (by decide)).1 (md (by decide)).2
  have hn : ∃ n : Nat, n < 4 ∧ d = .int (n : Int) := by
    simp only [List.mem_cons, List.not_mem_nil, or_false] at hd
    rcases hd with rfl | rfl | rfl | rfl | rfl
    · exact ⟨0, by decide, rfl⟩
    · exact ⟨1, by decide, rfl⟩
    · exact ⟨1, by decide, rfl⟩
    · exact ⟨2, by decide, rfl⟩
    · exact ⟨3, by decide, rfl⟩
  obtain ⟨n, hn, rfl⟩ := hn
  refine ⟨someM (more % 7).toNat n, ⟨by unfold someM; rw [List.length_map, List.length_range]; omega, someM_nd ⟨(more % 7).toNat, by have := m1; have := m0; exact (Int.toNat_lt m0).mpr m1⟩ ⟨n, hn⟩, someM_in _ _⟩, fun s => ?_⟩
  have q1 : mkL [.int 0, .int 1, .int 1, .int 2, .int 3] = some (.lst [.int 0, .int 1, .int 1, .int 2, .int 3]) := by kernel_rfl
  have q2 : mkL [.str "seen", .str "flag", .str "old", .str "a", .str "b", .str "todo", .str "zz"] = some (.lst (mD WORDS)) := by kernel_rfl
  have q3 : fdivI (.int more) (.int 8) = some (.int (more / 8)) := o_div (by decide +kernel)
  have q4 : modI (.int (more / 8)) (.int 5) = some (.int (more / 8 % 5)) := o_mod (by decide)
  have er := range_small (n := (n : Int)) (by omega) (by omega)
  have ei : iN range1D (aCons (e2S ixS (eN mkL (aCons (eC (.int 0)) (aCons (eC (.int 1)) (aCons (eC (.int 1)) (aCons (eC (.int 2)) (aCons (eC (.int 3)) aNil)))))) (e2 modI (e2 fdivI (eVar 0) (eC (.int 8))) (eC (.int 5)))) aNil) [some (.int more), some (.lst (mD WORDS)), none] s = .ok ((List.range n).map fun (i : Nat) => D.int (0 + (i : Int))) s := by
    refine ok_of ?_
    rw [Int.toNat_natCast] at er
    clear m0 m1 hd q2
    walk_at "wp"
  have e := lc0_at (it := iN range1D (aCons (e2S ixS (eN mkL (aCons (eC (.int 0)) (aCons (eC (.int 1)) (aCons (eC (.int 1)) (aCons (eC (.int 2)) (aCons (eC (.int 3)) aNil)))))) (e2 modI (e2 fdivI (eVar 0) (eC (.int 8))) (eC (.int 5)))) aNil)) (tg := gNm 2) (ts := tYesD) (el := e2S ixS (eVar 1) (e2 modI (e2 addDT (eVar 0) (e2 mulD (eC (.int 2)) (eVar 2))) (eC (.int 7)))) (vs := [2]) (τ := [some (.int more), some (.lst (mD WORDS)), none]) (s := s) (ds := (List.range n).map fun (i : Nat) => D.int (0 + (i : Int)))
    (fun _ => true) (fun d => match d with | .int j => .str (wAt (more % 7).toNat j.toNat) | _ => .non) ei (small_of (by rw [List.length_map, List.length_range]; omega)) fun d hd => by
      obtain ⟨j, hj, rfl⟩ := List.mem_map.mp hd
      refine ⟨_, rfl, rfl, fun _ => ok_of ?_⟩
      have a0 : mulD (.int 2) (.int (0 + (j : Int))) = some (.int (2 * (0 + (j : Int)))) := o_mul (mulOk_b (by decide) (by decide) (by omega) (by have := List.mem_range.mp hj; omega))
      have a1 := o_add more (2 * (0 + (j : Int)))
      have a2 : modI (.int (more + 2 * (0 + (j : Int)))) (.int 7) = some (.int ((more + 2 * (0 + (j : Int))) % 7)) := o_mod (by decide)
      have a3 : ixS s (.lst (mD WORDS)) (.int ((more + 2 * (0 + (j : Int))) % 7)) = some (.str (wAt (more % 7).toNat (0 + (j : Int)).toNat)) := by
        show L2.atI (mD WORDS) _ = _
        have hh := md (a := more + 2 * (0 + (j : Int))) (j := 7) (by decide)
        rw [atI_get (xs := mD WORDS) hh.1 hh.2]
        exact congrArg some (wAt_eq (by omega))
      show wp (e2S ixS (eVar 1) (e2 modI (e2 addDT (eVar 0) (e2 mulD (eC (.int 2)) (eVar 2))) (eC (.int 7))) [some (.int more), some (.lst (mD WORDS)), some (.int (0 + (j : Int)))] s) _ _
      clear hd hj ei er m0 m1 hn
      walk_at "wp"
  have ef : ((((List.range n).map fun (i : Nat) => D.int (0 + (i : Int))).filter fun _ => true).map fun d => match d with | .int j => D.str (wAt (more % 7).toNat j.toNat) | _ => .non) = mD (someM (more % 7).toNat n) := by
    rw [List.filter_eq_self.mpr (fun _ _ => rfl), List.map_map]
    unfold mD someM
    rw [List.map_map]
    refine List.map_congr_left fun j _ => ?_
    have hj : (0 + (j : Int)).toNat = j := by omega
    show D.str (wAt (more % 7).toNat (0 + (j : Int)).toNat) = D.str (wAt (more % 7).toNat j)
    rw [hj]
  rw [ef] at e
  replace e := wp_of (show smE [some (.int more), some (.lst (mD WORDS)), none] s = _ from e)
  refine ok_of ?_
  show wp (fnM 1 3 (sSeq (sSet 1 (eN mkL (aCons (eC (.str "seen")) (aCons (eC (.str "flag")) (aCons (eC (.str "old")) (aCons (eC (.str "a")) (aCons (eC (.str "b")) (aCons (eC (.str "todo")) (aCons (eC (.str "zz")) aNil))))))))) (sRet smE)) [.int more] s) _ _
  clear m0 m1 hd hn q1 q3 q4 er ei ef
  walk_at "wp"
end K95

set_option Elab.async false
set_option linter.all false
set_option maxRecDepth 100000
set_option maxHeartbeats 2000000
/-! the letters and marks that the law draws -/
namespace K95
open PySem Mir SX
local macro_rules | `(tactic| walk_at "wp") => `(tactic| simp -dsimp (disch := first | omega | assumption | (simp only [List.length_cons, List.length_nil, List.length_append, List.length_map]; omega)) only [*, ↓wp_eAnd, ↓wp_eOr, ↓wp_ch, ↓wp_c, ↓wp_var, ↓wp_e1, ↓wp_e2, ↓wp_eN, ↓wp_cons, ↓wp_nil, ↓wp_call, ↓wp_mt, ↓wp_sl, ↓wp_oNone, ↓wp_oSome, ↓wp_tB1, ↓wp_tNot, ↓wp_tAnd, ↓wp_tOr, ↓wp_eIf, ↓wp_told, ↓wp_next, ↓wp_raise, ↓wp_seq, ↓wp_expr, ↓wp_set, ↓wp_setO, ↓wp_setI, ↓wp_retS, ↓wp_retN, ↓wp_break, ↓wp_cont, ↓wp_if, ↓wp_app, ↓wp_asg, ↓wp_fn, ↓wp_for, ↓wp_iLst, ↓wp_iTpl, ↓wp_iN, ↓wp_iStr, ↓wp_tYes, ↓wp_ret,
  ↓wp_fld, ↓wp_fldSet, ↓wp_meth, ↓wp_new, ↓wp_sto, ↓wp_disp, ↓wp_e2S, ↓wp_eNS, ↓wp_setS, onN_non, ↓wp_ok, ↓wp_exc, ↓wp_e1S, ↓wp_par2, ↓wp_par3, on2_go, on3_go, ↓wp_get2, ↓wp_pop1, ↓wp_appS, ↓wp_eLock, ↓wp_sLock, ↓wp_end, ↓wp_iKeysD,
  onO_some, onB_bl, onI_int, onL_lst, onT_tup, onS_str, onE_go, onC_t,
  List.map_cons, List.map_nil, List.length_cons, List.length_nil, List.cons_append, List.nil_append, List.replicate, List.getElem?_cons_zero, List.getElem?_cons_succ, List.set_cons_zero, List.set_cons_succ, wipeD, decide_true, decide_false,
  Option.some.injEq, true_and, and_true, if_true, ite_true, if_false, Bool.false_eq_true, reduceIte, ite_false, Bool.not_true, Bool.not_false, Nat.reduceAdd, Nat.reduceSub, Nat.zero_add, Nat.reduceEqDiff])
def CALLED : List Str := ["m0", "m1", "m2", "m3", "m4", "m5", "", "n"]
def ANS : List Str := ["", "m0", "m1 m2", "m3 m0 zz", "zz"]
def SUBJ : List Str := ["a", "news", "hi you"]
def BODY : List Str := ["", "body", "a news\nof it"]
def hd1 (n : Str) (x : Str) : D := .tup [.str n, .str x]
def mkLet (c a : Option Str) (u b : Str) : D := .tup [.tup ((match c with | some x => [hd1 "id" x] | none => []) ++ [hd1 "subject" u] ++ (match a with | some x => [hd1 "re" x] | none => [])), .str b]
def LET : List D := BODY.flatMap fun b => SUBJ.flatMap fun u => (none :: CALLED.map some).flatMap fun c => (none :: ANS.map some).map fun a => mkLet c a u b
theorem mem_LET {c a : Option Str} {u b : Str} (hc : ∀ x, c = some x → x ∈ CALLED) (ha : ∀ x, a = some x → x ∈ ANS) (hu : u ∈ SUBJ) (hb : b ∈ BODY) : mkLet c a u b ∈ LET := by
  unfold LET
  refine List.mem_flatMap.mpr ⟨b, hb, List.mem_flatMap.mpr ⟨u, hu, List.mem_flatMap.mpr ⟨c, ?_, List.mem_map.mpr ⟨a, ?_, rfl⟩⟩⟩⟩
  · cases c with
    | none => exact List.mem_cons_self
    | some x => exact List.mem_cons_of_mem _ (List.mem_map.mpr ⟨x, hc x rfl, rfl⟩)
  · cases a with
    | none => exact List.mem_cons_self
    | some x => exact List.mem_cons_of_mem _ (List.mem_map.mpr ⟨x, ha x rfl, rfl⟩)
theorem need_LET (s : Sto) : ∀ l ∈ LET, M_need_letter [l] s = .ok .non s := fun l hl => by
  have h : LET.map (fun d => M_need_letter [d] s) = LET.map (fun _ => .ok .non s) := by kernel_rfl
  exact List.map_inj_left.mp h l hl
def plb (d : D) : Bool := match toP d with | some p => PyData.canLay0 p && decide (PyData.depth p ≤ 10) | none => false
theorem pl_LET : ∀ l ∈ LET, Pl 10 l := fun l hl => by
  have h : LET.all plb = true := by kernel_rfl
  have := List.all_eq_true.mp h l hl
  unfold plb at this
  cases e : toP l with
  | none => rw [e] at this; cases this
  | some p =>
    rw [e] at this
    simp only [Bool.and_eq_true, decide_eq_true_eq] at this
    exact ⟨p, e, this.1, this.2⟩
theorem words_ok : MOk WORDS := by
  have h : WORDS.all PyData.strOk = true := by kernel_rfl
  exact fun x hx => List.all_eq_true.mp h x hx
theorem is_word_W (s : Sto) : ∀ x ∈ WORDS, M_is_word [.str x, .int 10] s = .ok (.bl true) s := fun x hx => by
  have h : WORDS.map (fun d => M_is_word [.str d, .int 10] s) = WORDS.map (fun _ => .ok (.bl true) s) := by kernel_rfl
  exact List.map_inj_left.mp h x hx
end K95

set_option Elab.async false
set_option linter.all false
set_option maxRecDepth 100000
set_option maxHeartbeats 2000000
namespace K95
open PySem Mir SX
local macro_rules | `(tactic| walk_at "wp") => `(tactic| simp -dsimp (disch := first | omega | assumption | (simp only [List.length_cons, List.length_nil, List.length_append, List.length_map]; omega)) only [*, ↓wp_eAnd, ↓wp_eOr, ↓wp_ch, ↓wp_c, ↓wp_var, ↓wp_e1, ↓wp_e2, ↓wp_eN, ↓wp_cons, ↓wp_nil, ↓wp_call, ↓wp_mt, ↓wp_sl, ↓wp_oNone, ↓wp_oSome, ↓wp_tB1, ↓wp_tNot, ↓wp_tAnd, ↓wp_tOr, ↓wp_eIf, ↓wp_told, ↓wp_next, ↓wp_raise, ↓wp_seq, ↓wp_expr, ↓wp_set, ↓wp_setO, ↓wp_setI, ↓wp_retS, ↓wp_retN, ↓wp_break, ↓wp_cont, ↓wp_if, ↓wp_app, ↓wp_asg, ↓wp_fn, ↓wp_for, ↓wp_iLst, ↓wp_iTpl, ↓wp_iN, ↓wp_iStr, ↓wp_tYes, ↓wp_ret,
  ↓wp_fld, ↓wp_fldSet, ↓wp_meth, ↓wp_new, ↓wp_sto, ↓wp_disp, ↓wp_e2S, ↓wp_eNS, ↓wp_setS, onN_non, ↓wp_ok, ↓wp_exc, ↓wp_e1S, ↓wp_par2, ↓wp_par3, on2_go, on3_go, ↓wp_get2, ↓wp_pop1, ↓wp_appS, ↓wp_eLock, ↓wp_sLock, ↓wp_end, ↓wp_iKeysD,
  onO_some, onB_bl, onI_int, onL_lst, onT_tup, onS_str, onE_go, onC_t,
  List.map_cons, List.map_nil, List.length_cons, List.length_nil, List.cons_append, List.nil_append, List.replicate, List.getElem?_cons_zero, List.getElem?_cons_succ, List.set_cons_zero, List.set_cons_succ, wipeD, decide_true, decide_false,
  Option.some.injEq, true_and, and_true, if_true, ite_true, if_false, Bool.false_eq_true, reduceIte, ite_false, Bool.not_true, Bool.not_false, Nat.reduceAdd, Nat.reduceSub, Nat.zero_add, Nat.reduceEqDiff])
/-! ### marks_tuple -/
theorem mkT2 {a b : D} : mkT [a, b] = some (.tup [a, b]) := by kernel_rfl
theorem v_needM (b : Bool) (s : Sto) : M_need_marks [.bl b] s = if b = true then .ok .non s else .exc "BadMarks" s := by cases b <;> rfl
def mtE : ED := eLc0 (iLst (eVar 0)) (gNm 1) tYesD (eCall M_is_word (aCons (eVar 1) (aCons (eC (.int 10)) aNil))) [1]
theorem Mk.ok {m : List Str} (h : Mk m) : MOk m := fun x hx => words_ok x (h.wd x hx)
theorem all_true {α : Type} (l : List α) : allD [.lst (l.map fun _ => D.bl true)] = some (.bl true) := by
  have e : bls (l.map fun _ => D.bl true) = some (l.map fun _ => true) := by
    induction l with
    | nil => rfl
    | cons a l ih => show (bls (l.map fun _ => D.bl true)).map (true :: ·) = _; rw [ih]; rfl
  show (bls (l.map fun _ => D.bl true)).map _ = _
  rw [e]
  show some (D.bl ((l.map fun _ => true).all id)) = _
  congr 2
  induction l with
  | nil => rfl
  | cons a l ih => simp
theorem v_marksT {m : List Str} (h : Mk m) (s : Sto) : M_marks_tuple [.lst (mD m)] s = .ok (.tup (mD (sortT m))) s := by
  have hl := h.len
  have q1 : mtE [some (.lst (mD m)), none] s = .ok (.lst (m.map fun _ => D.bl true)) s := by
    have e := lc0_at (it := iLst (eVar 0)) (tg := gNm 1) (ts := tYesD) (el := eCall M_is_word (aCons (eVar 1) (aCons (eC (.int 10)) aNil))) (vs := [1]) (τ := [some (.lst (mD m)), none]) (s := s) (ds := mD m) (fun _ => true) (fun _ => .bl true) rfl (small_of (by unfold mD; rw [List.length_map]; omega)) fun d hd => by
      obtain ⟨x, hx, rfl⟩ := List.mem_map.mp hd
      refine ⟨_, rfl, rfl, fun _ => ok_of ?_⟩
      have a1 := wp_of (is_word_W s x (h.wd x hx))
      show wp (eCall M_is_word (aCons (eVar 1) (aCons (eC (.int 10)) aNil)) [some (.lst (mD m)), some (.str x)] s) _ _
      clear hd h
      walk_at "wp"
    rw [List.filter_eq_self.mpr (fun _ _ => rfl)] at e
    unfold mD at e
    rw [List.map_map] at e
    exact e
  have q2 := all_true m
  have q3 := fun s => wp_of (v_needM true s)
  have q4 : lenS s [.lst (mD m)] = some (.int m.length) := by
    rw [lenS_lst _ _ (by unfold mD; rw [List.length_map]; omega)]
    unfold mD
    rw [List.length_map]
  have q5 : leD (.int m.length) (.int 6) = some (.bl true) := by
    show some (D.bl (decide ((m.length : Int) ≤ 6))) = _
    rw [decide_eq_true (by omega)]
  have q6 : lenSet s (.lst (mD m)) = some (.int m.length) := by
    rw [lenSet_str (l := m) rfl (by omega), dd_id h.nd]
  have q7 : eqD (.int m.length) (.int m.length) = some (.bl true) := (eq_self (Pl.int 0 _) (by decide)).1
  have q8 : sortS3 s [.lst (mD m)] = some (.lst (mD (sortT m))) := sort_strs rfl (by omega)
  have q9 : tupS s [.lst (mD (sortT m))] = some (.tup (mD (sortT m))) := rfl
  refine ok_of ?_
  replace q1 := wp_of q1
  show wp (fnM 1 2 (sSeq (sExpr (eCall M_need_marks (aCons (eN allD (aCons mtE aNil)) aNil))) (sSeq (sExpr (eCall M_need_marks (aCons (eAndD (e2 leD (eNS lenS (aCons (eVar 0) aNil)) (eC (.int 6))) (e2 eqD (e1S lenSet (eVar 0)) (eNS lenS (aCons (eVar 0) aNil)))) aNil))) (sRet (eNS tupS (aCons (eNS sortS3 (aCons (eVar 0) aNil)) aNil))))) [.lst (mD m)] s) _ _
  clear h hl
  generalize mD m = mm at *
  generalize (m.map fun _ => D.bl true) = mb at *
  walk_at "wp"
/-! ### small letters -/
theorem v_small (more : Int) : ∃ l ∈ LET, ∀ s, M__law_small_letter [.int more] s = .ok l s := by
  have h6 : ∃ t u, (t ∈ (["m0", "m1", "m2", "m3", "m4", "m5"] : List Str)) ∧ modI (.int more) (.int 6) = some (.int (more % 6)) ∧ strAD [.int (more % 6)] = some u ∧ addDT (.str "m") u = some (.str t) := by
    have e : modI (.int more) (.int 6) = some (.int (more % 6)) := o_mod (by decide)
    have hm := md (a := more) (j := 6) (by decide)
    rcases (by omega : more % 6 = 0 ∨ more % 6 = 1 ∨ more % 6 = 2 ∨ more % 6 = 3 ∨ more % 6 = 4 ∨ more % 6 = 5) with z | z | z | z | z | z <;> rw [z] at e ⊢
    · exact ⟨"m0", .str "0", by decide, e, by kernel_rfl, by kernel_rfl⟩
    · exact ⟨"m1", .str "1", by decide, e, by kernel_rfl, by kernel_rfl⟩
    · exact ⟨"m2", .str "2", by decide, e, by kernel_rfl, by kernel_rfl⟩
    · exact ⟨"m3", .str "3", by decide, e, by kernel_rfl, by kernel_rfl⟩
    · exact ⟨"m4", .str "4", by decide, e, by kernel_rfl, by kernel_rfl⟩
    · exact ⟨"m5", .str "5", by decide, e, by kernel_rfl, by kernel_rfl⟩
  obtain ⟨t, u, ht, a1, a2, a3⟩ := h6
  have a4 : mkL [.str t, .str "m1 ", .str "", .str "n"] = some (.lst [.str t, .str "m1 ", .str "", .str "n"]) := by kernel_rfl
  have a5 : fdivI (.int more) (.int 8) = some (.int (more / 8)) := o_div (by decide +kernel)
  have a6 : modI (.int (more / 8)) (.int 4) = some (.int (more / 8 % 4)) := o_mod (by decide)
  obtain ⟨d, hd, ed⟩ := ix_list (ds := [.str t, .str "m1 ", .str "", .str "n"]) (more / 8 % 4) (md (by decide)).1 (md (by decide)).2
  have hc : ∃ x c, d = .str x ∧ c ∈ CALLED ∧ stripD (.str x) [.str " "] = some (.str c) := by
    simp only [List.mem_cons, List.not_mem_nil, or_false] at hd ht
    rcases hd with rfl | rfl | rfl | rfl
    · rcases ht with rfl | rfl | rfl | rfl | rfl | rfl
      · exact ⟨_, "m0", rfl, by decide, by kernel_rfl⟩
      · exact ⟨_, "m1", rfl, by decide, by kernel_rfl⟩
      · exact ⟨_, "m2", rfl, by decide, by kernel_rfl⟩
      · exact ⟨_, "m3", rfl, by decide, by kernel_rfl⟩
      · exact ⟨_, "m4", rfl, by decide, by kernel_rfl⟩
      · exact ⟨_, "m5", rfl, by decide, by kernel_rfl⟩
    · exact ⟨_, "m1", rfl, by decide, by kernel_rfl⟩
    · exact ⟨_, "", rfl, by decide, by kernel_rfl⟩
    · exact ⟨_, "n", rfl, by decide, by kernel_rfl⟩
  obtain ⟨x, c, rfl, hc, ec⟩ := hc
  have pick : ∀ (l : List Str) (i : Int), 0 ≤ i → i < l.length → ∃ y ∈ l, ∀ s, ixS s (.lst (l.map D.str)) (.int i) = some (.str y) := fun l i h0 h1 => by
    obtain ⟨d, hd, e⟩ := ix_list (ds := l.map D.str) i h0 (by rw [List.length_map]; exact h1)
    obtain ⟨y, hy, rfl⟩ := List.mem_map.mp hd
    exact ⟨y, hy, e⟩
  obtain ⟨a, ha, ea⟩ := pick ANS (more / 32 % 5) (md (by decide)).1 (md (by decide)).2
  obtain ⟨v, hv, ev⟩ := pick SUBJ (more / 256 % 3) (md (by decide)).1 (md (by decide)).2
  obtain ⟨b, hb, eb⟩ := pick BODY (more / 16384 % 3) (md (by decide)).1 (md (by decide)).2
  have b1 : mkL [.str "", .str "m0", .str "m1 m2", .str "m3 m0 zz", .str "zz"] = some (.lst (ANS.map D.str)) := by kernel_rfl
  have b2 : mkL [.str "a", .str "news", .str "hi you"] = some (.lst (SUBJ.map D.str)) := by kernel_rfl
  have b3 : mkL [.str "", .str "body", .str "a news\nof it"] = some (.lst (BODY.map D.str)) := by kernel_rfl
  have b4 : fdivI (.int more) (.int 32) = some (.int (more / 32)) := o_div (by decide +kernel)
  have b5 : modI (.int (more / 32)) (.int 5) = some (.int (more / 32 % 5)) := o_mod (by decide)
  have b6 : fdivI (.int more) (.int 256) = some (.int (more / 256)) := o_div (by decide +kernel)
  have b7 : modI (.int (more / 256)) (.int 3) = some (.int (more / 256 % 3)) := o_mod (by decide)
  have b8 : fdivI (.int more) (.int 1024) = some (.int (more / 1024)) := o_div (by decide +kernel)
  have b9 : modI (.int (more / 1024)) (.int 3) = some (.int (more / 1024 % 3)) := o_mod (by decide)
  have c1 : fdivI (.int more) (.int 4096) = some (.int (more / 4096)) := o_div (by decide +kernel)
  have c2 : modI (.int (more / 4096)) (.int 2) = some (.int (more / 4096 % 2)) := o_mod (by decide)
  have c3 : fdivI (.int more) (.int 16384) = some (.int (more / 16384)) := o_div (by decide +kernel)
  have c4 : modI (.int (more / 16384)) (.int 3) = some (.int (more / 16384 % 3)) := o_mod (by decide)
  have c5 : powI (.int 2) (.int 14) = some (.int 16384) := by kernel_rfl
  have c6 : gtI (.int (more / 1024 % 3)) (.int 0) = some (.bl (decide (0 < more / 1024 % 3))) := rfl
  have c7 : ∃ z, eqD (.int (more / 4096 % 2)) (.int 0) = some (.bl z) := by
    have hm := md (a := more / 4096) (j := 2) (by decide)
    rcases (by omega : more / 4096 % 2 = 0 ∨ more / 4096 % 2 = 1) with z | z <;> rw [z]
    · exact ⟨true, by kernel_rfl⟩
    · exact ⟨false, by kernel_rfl⟩
  obtain ⟨z2, c7⟩ := c7
  have mt := @mkT2
  have m1 : ∀ d : D, mkL [d] = some (.lst [d]) := fun d => by kernel_rfl
  have ty : isTy "str" (.str x) = true := by kernel_rfl
  refine ⟨mkLet (if 0 < more / 1024 % 3 then some c else none) (if z2 = true then some a else none) v b, mem_LET (fun y hy => ?_) (fun y hy => ?_) hv hb, fun s => ok_of ?_⟩
  · split at hy
    · cases hy; exact hc
    · cases hy
  · split at hy
    · cases hy; exact ha
    · cases hy
  · unfold M__law_small_letter b__law_small_letter
    have t1 : ∀ x y : D, addDT (.lst [x]) (.lst [y]) = some (.lst [x, y]) := fun x y => by kernel_rfl
    have t2 : ∀ x y w : D, addDT (.lst [x, y]) (.lst [w]) = some (.lst [x, y, w]) := fun x y w => by kernel_rfl
    have t3 : ∀ l : List D, l.length ≤ 3 → tupS s [.lst l] = some (.tup l) := fun l hl => rfl
    clear hc ha hv hb ht hd pick
    by_cases z1 : 0 < more / 1024 % 3
    · cases z2 with
      | true =>
        have tt := t3 [hd1 "id" c, hd1 "subject" v, hd1 "re" a] (by simp)
        unfold hd1 at tt
        clear t3
        rw [decide_eq_true z1] at c6
        walk_at "wp"
        rfl
      | false =>
        have tt := t3 [hd1 "id" c, hd1 "subject" v] (by simp)
        unfold hd1 at tt
        clear t3
        rw [decide_eq_true z1] at c6
        walk_at "wp"
        rfl
    · cases z2 with
      | true =>
        have tt := t3 [hd1 "subject" v, hd1 "re" a] (by simp)
        unfold hd1 at tt
        clear t3
        rw [decide_eq_false z1] at c6
        walk_at "wp"
        rfl
      | false =>
        have tt := t3 [hd1 "subject" v] (by simp)
        unfold hd1 at tt
        clear t3
        rw [decide_eq_false z1] at c6
        walk_at "wp"
        rfl
end K95

set_option Elab.async false
set_option linter.all false
set_option maxRecDepth 100000
set_option maxHeartbeats 1000000
/-! the shelf: its boxes by names, what is done to one of them -/
namespace K95
open PySem Mir SX L2
local macro_rules | `(tactic| walk_at "wp") => `(tactic| simp -dsimp (disch := first | omega | assumption | (simp only [List.length_cons, List.length_nil, List.length_append, List.length_map]; omega)) only [*, ↓wp_eAnd, ↓wp_eOr, ↓wp_ch, ↓wp_c, ↓wp_var, ↓wp_e1, ↓wp_e2, ↓wp_eN, ↓wp_cons, ↓wp_nil, ↓wp_call, ↓wp_mt, ↓wp_sl, ↓wp_oNone, ↓wp_oSome, ↓wp_tB1, ↓wp_tNot, ↓wp_tAnd, ↓wp_tOr, ↓wp_eIf, ↓wp_told, ↓wp_next, ↓wp_raise, ↓wp_seq, ↓wp_expr, ↓wp_set, ↓wp_setO, ↓wp_setI, ↓wp_retS, ↓wp_retN, ↓wp_break, ↓wp_cont, ↓wp_if, ↓wp_app, ↓wp_asg, ↓wp_fn, ↓wp_for, ↓wp_iLst, ↓wp_iTpl, ↓wp_iN, ↓wp_iStr, ↓wp_tYes, ↓wp_ret,
  ↓wp_fld, ↓wp_fldSet, ↓wp_meth, ↓wp_new, ↓wp_sto, ↓wp_disp, ↓wp_e2S, ↓wp_eNS, ↓wp_setS, onN_non, ↓wp_ok, ↓wp_exc, ↓wp_e1S, ↓wp_par2, ↓wp_par3, on2_go, on3_go, ↓wp_get2, ↓wp_pop1, ↓wp_appS, ↓wp_eLock, ↓wp_sLock, ↓wp_end, ↓wp_iKeysD,
  onO_some, onB_bl, onI_int, onL_lst, onT_tup, onS_str, onE_go, onC_t,
  List.map_cons, List.map_nil, List.length_cons, List.length_nil, List.cons_append, List.nil_append, List.replicate, List.getElem?_cons_zero, List.getElem?_cons_succ, List.set_cons_zero, List.set_cons_succ, wipeD, decide_true, decide_false,
  Option.some.injEq, true_and, and_true, if_true, ite_true, if_false, Bool.false_eq_true, reduceIte, ite_false, Bool.not_true, Bool.not_false, Nat.reduceAdd, Nat.reduceSub, Nat.zero_add, Nat.reduceEqDiff])
def shF (sd : Int) (kd : Nat) : List (Str × D) := [("stamped", .int sd), ("kept", .obj kd)]
/-- a shelf: where it stands, its dict, the last stamp, its boxes -/
structure SK (s : Sto) (a kd : Nat) (sd : Int) (nm : List (Str × Nat)) : Prop where
  sh : s[a]? = some (.ins "Shelf" (shF sd kd))
  kd : s[kd]? = some (.dct (nm.map fun p => (Sum.inr p.1, .obj p.2)))
  nd : (nm.map (·.1)).Nodup
section
variable {s s' : Sto} {a kd : Nat} {sd : Int} {nm : List (Str × Nat)} {name : Str} {b : Nat}
theorem SK.fr {F : List Nat} (h : SK s a kd sd nm) (f : Fr F s s') (h1 : a ∉ F) (h2 : kd ∉ F) : SK s' a kd sd nm := ⟨f.at_ h.sh h1, f.at_ h.kd h2, h.nd⟩
theorem SK.kept (h : SK s a kd sd nm) : fldO ["Shelf"] "kept" s (.obj a) = some (.obj kd) := fld_at h.sh (by simp) (by kernel_rfl)
theorem SK.meth {m : Str} (h : SK s a kd sd nm) (hm : (shF sd kd).lookup m = none := by kernel_rfl) : isIns "Shelf" m s (.obj a) = true := isIns_at h.sh hm
theorem nm_get (nd : (nm.map (·.1)).Nodup) (hb : (name, b) ∈ nm) : dGet (nm.map fun p => ((Sum.inr p.1 : Key), D.obj p.2)) (.inr name) = some (.obj b) := by
  rcases dGet_map (f := fun p : Str × Nat => (Sum.inr p.1 : Key)) (g := fun p => D.obj p.2) (k := .inr name) (l := nm) with ⟨q, h1, h2, h3⟩ | ⟨h1, _⟩
  · have e1 : q.1 = name := Sum.inr.inj h2
    have e : q = (name, b) := by
      obtain ⟨i, hi, rfl⟩ := List.mem_iff_getElem.mp h1
      obtain ⟨j, hj, ej⟩ := List.mem_iff_getElem.mp hb
      have hh : nm.Pairwise fun a b => a.1 ≠ b.1 := List.pairwise_map.mp nd
      have hij : i = j := by
        rcases Nat.lt_trichotomy i j with q | q | q
        · exact absurd (by rw [ej]; exact e1) (List.pairwise_iff_getElem.mp hh i j hi hj q)
        · exact q
        · exact absurd (by rw [ej]; exact e1.symm) (List.pairwise_iff_getElem.mp hh j i hj hi q)
      subst hij
      exact ej
    rw [e] at h3
    exact h3
  · exact absurd rfl (h1 _ hb)
theorem v_needS (b : Bool) (s : Sto) : M_need_shelves [.bl b] s = if b = true then .ok .non s else .exc "BadBox" s := by cases b <;> rfl
theorem v_box (h : SK s a kd sd nm) (hb : (name, b) ∈ nm) : M_Shelf_box [.obj a, .str name] s = .ok (.obj b) s := by
  have g := nm_get h.nd hb
  have a1 := h.kept
  have a2 : inS2 false s (.str name) (.obj kd) = some (.bl true) := by rw [(in_dct (k := .str name) (dct_at h.kd) rfl).1, g]; rfl
  have a3 : ixS s (.obj kd) (.str name) = some (.obj b) := by rw [ix_dct (dct_at h.kd) (rfl : keyD (.str name) = some (.inr name)), g]
  have a4 := fun s => wp_of (v_needS true s)
  refine ok_of ?_
  unfold M_Shelf_box b_Shelf_box
  clear h hb g
  walk_at "wp"
/-! ### what is asked -/
variable {B : Bx}
theorem v_numbers (h : SK s a kd sd nm) (hb : (name, B.bx) ∈ nm) (p : PB s B) (o : B.Ok) : M_Shelf_numbers [.obj a, .str name] s = .ok (.lst (B.keys.map D.int)) s := by
  have e1 := wp_of (v_box h hb)
  have e2 := h.meth (m := "box")
  have e3 := p.entries
  have e4 := p.sorted o
  refine ok_of ?_
  unfold M_Shelf_numbers b_Shelf_numbers
  clear h hb p o
  walk_at "wp"
theorem v_entry (p : PB s B) (o : B.Ok) {r : Row} (hr : r ∈ B.es) : M_Box_entry [.obj B.bx, .int r.no] s = .ok (.obj r.at_) s := by
  have e1 := p.entries
  have e2 : inS2 true s (.int r.no) (.obj B.en) = some (.bl false) := by
    rw [(p.inE r.no).2, decide_eq_true (show r.no ∈ B.keys from List.mem_map.mpr ⟨r, hr, rfl⟩)]
    rfl
  have e3 := p.row o hr
  refine ok_of ?_
  unfold M_Box_entry b_Box_entry
  clear p o hr
  walk_at "wp"
theorem v_letter_at (h : SK s a kd sd nm) (hb : (name, B.bx) ∈ nm) (p : PB s B) (o : B.Ok) {r : Row} (hr : r ∈ B.es) : M_Shelf_letter_at [.obj a, .str name, .int r.no] s = .ok r.l s := by
  have e1 := wp_of (v_box h hb)
  have e2 := h.meth (m := "box")
  have e3 := p.meth (m := "entry")
  have e4 := wp_of (v_entry p o hr)
  have e5 := ent_letter (p.es r hr)
  refine ok_of ?_
  unfold M_Shelf_letter_at b_Shelf_letter_at
  clear h hb p o hr
  walk_at "wp"
theorem v_marks_of (h : SK s a kd sd nm) (hb : (name, B.bx) ∈ nm) (p : PB s B) (o : B.Ok) {r : Row} (hr : r ∈ B.es) : M_Shelf_marks_of [.obj a, .str name, .int r.no] s = .ok (.lst (mD r.m)) s := by
  have e1 := wp_of (v_box h hb)
  have e2 := h.meth (m := "box")
  have e3 := p.meth (m := "entry")
  have e4 := wp_of (v_entry p o hr)
  have e5 := ent_marks (p.es r hr)
  have e6 : listS s [.tup (mD r.m)] = some (.lst (mD r.m)) := rfl
  refine ok_of ?_
  unfold M_Shelf_marks_of b_Shelf_marks_of
  clear h hb p o hr
  walk_at "wp"
/-! ### what is done -/
theorem v_put (h : SK s a kd sd nm) (hb : (name, B.bx) ∈ nm) (p : PB s B) (o : B.Ok) {l : D} (hl : l ∈ LET) {m : List Str} (hm : Mk m) (h1 : 1 ≤ B.nx) (hr : B.nx + 1 ≤ 10000) (hf : B.es.length + 1 < 100000) :
    ∃ s', M_Shelf_put [.obj a, .str name, l, .lst (mD m)] s = .ok (.int B.nx) s' ∧ PB s' (B.add s.length [(l, sortT m)]) ∧ (B.add s.length [(l, sortT m)]).Ok ∧ Fr [B.bx, B.en] s s' := by
  have hok : MOk (sortT m) := fun x hx => hm.ok x ((sortT_perm m).mem_iff.mp hx)
  obtain ⟨s1, e0, P1, o1, F1, L1⟩ := v_add p o [(l, sortT m)] (fun q hq => by rw [List.mem_singleton.mp hq]; exact ⟨pl_LET l hl, hok⟩) h1 hr hf
  have e1 := wp_of (v_box h hb)
  have e2 := h.meth (m := "box")
  have e3 := wp_of (need_LET s l hl)
  have e4 := wp_of (v_marksT hm s)
  have mt := @mkT2
  have m1 : mkL [.tup [l, .tup (mD (sortT m))]] = some (.lst [.tup [l, .tup (mD (sortT m))]]) := by kernel_rfl
  have e5 := p.meth (m := "add_all")
  have e6 : ixS s1 (.lst [.int B.nx]) (.int 0) = some (.int B.nx) := by kernel_rfl
  replace e0 : ∀ (Q : D → Sto → Prop) (X : XP), wp (M_Box_add_all [.obj B.bx, .lst [.tup [l, .tup (mD (sortT m))]]] s) Q X = Q (.lst [.int B.nx]) s1 := wp_of e0
  refine ⟨s1, ok_of ?_, P1, o1, F1⟩
  unfold M_Shelf_put b_Shelf_put
  clear h hb p o hl hm h1 hr hf hok P1 o1 F1 L1
  walk_at "wp"
end
end K95

set_option Elab.async false
set_option linter.all false
set_option maxRecDepth 100000
set_option maxHeartbeats 4000000
/-! a new shelf with three boxes -/
namespace K95
open PySem Mir SX L2
local macro_rules | `(tactic| walk_at "wp") => `(tactic| simp -dsimp (disch := first | omega | assumption | (simp only [List.length_cons, List.length_nil, List.length_append, List.length_map]; omega)) only [*, ↓wp_eAnd, ↓wp_eOr, ↓wp_ch, ↓wp_c, ↓wp_var, ↓wp_e1, ↓wp_e2, ↓wp_eN, ↓wp_cons, ↓wp_nil, ↓wp_call, ↓wp_mt, ↓wp_sl, ↓wp_oNone, ↓wp_oSome, ↓wp_tB1, ↓wp_tNot, ↓wp_tAnd, ↓wp_tOr, ↓wp_eIf, ↓wp_told, ↓wp_next, ↓wp_raise, ↓wp_seq, ↓wp_expr, ↓wp_set, ↓wp_setO, ↓wp_setI, ↓wp_retS, ↓wp_retN, ↓wp_break, ↓wp_cont, ↓wp_if, ↓wp_app, ↓wp_asg, ↓wp_fn, ↓wp_for, ↓wp_iLst, ↓wp_iTpl, ↓wp_iN, ↓wp_iStr, ↓wp_tYes, ↓wp_ret,
  ↓wp_fld, ↓wp_fldSet, ↓wp_meth, ↓wp_new, ↓wp_sto, ↓wp_disp, ↓wp_e2S, ↓wp_eNS, ↓wp_setS, onN_non, ↓wp_ok, ↓wp_exc, ↓wp_e1S, ↓wp_par2, ↓wp_par3, on2_go, on3_go, ↓wp_get2, ↓wp_pop1, ↓wp_appS, ↓wp_eLock, ↓wp_sLock, ↓wp_end, ↓wp_iKeysD,
  onO_some, onB_bl, onI_int, onL_lst, onT_tup, onS_str, onE_go, onC_t,
  List.map_cons, List.map_nil, List.length_cons, List.length_nil, List.cons_append, List.nil_append, List.replicate, List.getElem?_cons_zero, List.getElem?_cons_succ, List.set_cons_zero, List.set_cons_succ, wipeD, decide_true, decide_false,
  Option.some.injEq, true_and, and_true, if_true, ite_true, if_false, Bool.false_eq_true, reduceIte, ite_false, Bool.not_true, Bool.not_false, Nat.reduceAdd, Nat.reduceSub, Nat.zero_add, Nat.reduceEqDiff])
section
variable {s : Sto} {x y : Ob} {l : Sto} {Q : D → Sto → Prop} {X : XP}
theorem sto_at : (s ++ x :: l)[s.length]? = some x := by simp
theorem sto_st : (s ++ x :: l).set s.length y = s ++ y :: l := by simp
theorem app_get (k : Nat) : (s ++ l)[s.length + k]? = l[k]? := by rw [List.getElem?_append_right (by omega)]; congr 1; omega
theorem app_set (k : Nat) : (s ++ l).set (s.length + k) x = s ++ l.set k x := by rw [List.set_append_right _ _ (by omega)]; congr 2; omega
def nBx (n : Nat) (st : Int) : Bx := ⟨n, n + 1, n + 2, st, 1, 0, [], []⟩
theorem set_at {cs : List Str} {n : Str} {v : D} {cl : Str} {fl fl' : List (Str × D)} (hc : cl ∈ cs) (hl : fl.length < 1000) (hp : putFD n v fl = fl') : setFld cs n v (s ++ .ins cl fl :: l) (.obj s.length) = some (s ++ .ins cl fl' :: l) := by
  rw [setFld_at sto_at hc hl, sto_st, hp]
theorem wp_boxInit (st : Int) : wp (M_Box___init__ [.obj s.length, .int st] (s ++ [.ins "Box" []])) Q X = Q .non (s ++ [boxO (nBx s.length st), .dct [], .dct []]) := by
  have f1 : setFld ["Box", "Watch"] "stamp" (.int st) (s ++ [.ins "Box" []]) (.obj s.length) = some (s ++ [.ins "Box" [("stamp", .int st)]]) := set_at (by decide) (by decide) (by kernel_rfl)
  have f2 : setFld ["Box"] "coming" (.int 1) (s ++ [.ins "Box" [("stamp", .int st)]]) (.obj s.length) = some (s ++ [.ins "Box" [("stamp", .int st), ("coming", .int 1)]]) := set_at (by decide) (by simp) (by kernel_rfl)
  have f3 : setFld ["Box"] "step" (.int 0) (s ++ [.ins "Box" [("stamp", .int st), ("coming", .int 1)]]) (.obj s.length) = some (s ++ [.ins "Box" [("stamp", .int st), ("coming", .int 1), ("step", .int 0)]]) := set_at (by decide) (by simp) (by kernel_rfl)
  have f4 : setFld ["Box"] "entries" (.obj (s.length + 1)) (s ++ [.ins "Box" [("stamp", .int st), ("coming", .int 1), ("step", .int 0)], .dct []]) (.obj s.length) = some (s ++ [.ins "Box" [("stamp", .int st), ("coming", .int 1), ("step", .int 0), ("entries", .obj (s.length + 1))], .dct []]) := set_at (by decide) (by simp) (by kernel_rfl)
  have f5 : setFld ["Box"] "gone" (.obj (s.length + 2)) (s ++ [.ins "Box" [("stamp", .int st), ("coming", .int 1), ("step", .int 0), ("entries", .obj (s.length + 1))], .dct [], .dct []]) (.obj s.length) = some (s ++ [boxO (nBx s.length st), .dct [], .dct []]) := set_at (by decide) (by simp) (by kernel_rfl)
  have o1 : obOf (.dct []) = some (.dct []) := rfl
  have a1 : ∀ (l : Sto) (x : Ob), (s ++ l) ++ [x] = s ++ (l ++ [x]) := fun l x => List.append_assoc ..
  have a2 : ∀ (l : Sto), (s ++ l).length = s.length + l.length := fun l => List.length_append ..
  unfold M_Box___init__ b_Box___init__
  walk_at "wp"
end
end K95

set_option Elab.async false
set_option linter.all false
set_option maxRecDepth 100000
set_option maxHeartbeats 4000000
/-! a new shelf with three boxes: the shelf, make -/
namespace K95
open PySem Mir SX L2
local macro_rules | `(tactic| walk_at "wp") => `(tactic| simp -dsimp (disch := first | omega | assumption | (simp only [List.length_cons, List.length_nil, List.length_append, List.length_map]; omega)) only [*, ↓wp_eAnd, ↓wp_eOr, ↓wp_ch, ↓wp_c, ↓wp_var, ↓wp_e1, ↓wp_e2, ↓wp_eN, ↓wp_cons, ↓wp_nil, ↓wp_call, ↓wp_mt, ↓wp_sl, ↓wp_oNone, ↓wp_oSome, ↓wp_tB1, ↓wp_tNot, ↓wp_tAnd, ↓wp_tOr, ↓wp_eIf, ↓wp_told, ↓wp_next, ↓wp_raise, ↓wp_seq, ↓wp_expr, ↓wp_set, ↓wp_setO, ↓wp_setI, ↓wp_retS, ↓wp_retN, ↓wp_break, ↓wp_cont, ↓wp_if, ↓wp_app, ↓wp_asg, ↓wp_fn, ↓wp_for, ↓wp_iLst, ↓wp_iTpl, ↓wp_iN, ↓wp_iStr, ↓wp_tYes, ↓wp_ret,
  ↓wp_fld, ↓wp_fldSet, ↓wp_meth, ↓wp_new, ↓wp_sto, ↓wp_disp, ↓wp_e2S, ↓wp_eNS, ↓wp_setS, onN_non, ↓wp_ok, ↓wp_exc, ↓wp_e1S, ↓wp_par2, ↓wp_par3, on2_go, on3_go, ↓wp_get2, ↓wp_pop1, ↓wp_appS, ↓wp_eLock, ↓wp_sLock, ↓wp_end, ↓wp_iKeysD,
  onO_some, onB_bl, onI_int, onL_lst, onT_tup, onS_str, onE_go, onC_t,
  List.map_cons, List.map_nil, List.length_cons, List.length_nil, List.cons_append, List.nil_append, List.replicate, List.getElem?_cons_zero, List.getElem?_cons_succ, List.set_cons_zero, List.set_cons_succ, wipeD, decide_true, decide_false,
  Option.some.injEq, true_and, and_true, if_true, ite_true, if_false, Bool.false_eq_true, reduceIte, ite_false, Bool.not_true, Bool.not_false, Nat.reduceAdd, Nat.reduceSub, Nat.zero_add, Nat.reduceEqDiff])
section
variable {s : Sto} {Q : D → Sto → Prop} {X : XP}
def shO (sd : Int) (kd : Nat) : Ob := .ins "Shelf" (shF sd kd)
/-- behind Shelf() -/
def SS0 (n : Nat) : Sto := [shO 1 (n + 4), boxO (nBx (n + 1) 1), .dct [], .dct [], .dct [(.inr "in", .obj (n + 1))]]
theorem wp_shelfInit : wp (M_Shelf___init__ [.obj s.length] (s ++ [.ins "Shelf" []])) Q X = Q .non (s ++ SS0 s.length) := by
  have f1 : setFld ["Shelf"] "stamped" (.int 1) (s ++ [.ins "Shelf" []]) (.obj s.length) = some (s ++ [.ins "Shelf" [("stamped", .int 1)]]) := set_at (by decide) (by decide) (by kernel_rfl)
  have a1 : ∀ (l : Sto) (x : Ob), (s ++ l) ++ [x] = s ++ (l ++ [x]) := fun l x => List.append_assoc ..
  have a2 : ∀ (l : Sto), (s ++ l).length = s.length + l.length := fun l => List.length_append ..
  have b0 : ∀ Q X, wp (M_Box___init__ [.obj (s.length + 1), .int 1] (s ++ [.ins "Shelf" [("stamped", .int 1)], .ins "Box" []])) Q X = Q .non (s ++ [.ins "Shelf" [("stamped", .int 1)], boxO (nBx (s.length + 1) 1), .dct [], .dct []]) := fun Q X => by
    have := wp_boxInit (s := s ++ [.ins "Shelf" [("stamped", .int 1)]]) (Q := Q) (X := X) 1
    rw [a2, List.append_assoc, List.append_assoc] at this
    exact this
  have f2 : setFld ["Shelf"] "kept" (.obj (s.length + 4)) (s ++ [.ins "Shelf" [("stamped", .int 1)], boxO (nBx (s.length + 1) 1), .dct [], .dct [], .dct [(.inr "in", .obj (s.length + 1))]]) (.obj s.length) = some (s ++ SS0 s.length) := set_at (by decide) (by simp) (by kernel_rfl)
  have o1 : obOf (.dct [(.inr "in", .obj (s.length + 1))]) = some (.dct [(.inr "in", .obj (s.length + 1))]) := rfl
  have m1 : mergeD ((([Sum.inr ("in" : Str)] : List L2.Key)).zip [D.obj (s.length + 1)]) = [(Sum.inr ("in" : Str), D.obj (s.length + 1))] := by kernel_rfl
  generalize s ++ SS0 s.length = so at *
  unfold M_Shelf___init__ b_Shelf___init__
  walk_at "wp"
end
end K95

set_option Elab.async false
set_option linter.all false
set_option maxRecDepth 100000
set_option maxHeartbeats 4000000
/-! one box with some letters; what is refused -/
namespace K95
open PySem Mir SX L2
local macro_rules | `(tactic| walk_at "wp") => `(tactic| simp -dsimp (disch := first | omega | assumption | (simp only [List.length_cons, List.length_nil, List.length_append, List.length_map]; omega)) only [*, ↓wp_eAnd, ↓wp_eOr, ↓wp_ch, ↓wp_c, ↓wp_var, ↓wp_e1, ↓wp_e2, ↓wp_eN, ↓wp_cons, ↓wp_nil, ↓wp_call, ↓wp_mt, ↓wp_sl, ↓wp_oNone, ↓wp_oSome, ↓wp_tB1, ↓wp_tNot, ↓wp_tAnd, ↓wp_tOr, ↓wp_eIf, ↓wp_told, ↓wp_next, ↓wp_raise, ↓wp_seq, ↓wp_expr, ↓wp_set, ↓wp_setO, ↓wp_setI, ↓wp_retS, ↓wp_retN, ↓wp_break, ↓wp_cont, ↓wp_if, ↓wp_app, ↓wp_asg, ↓wp_fn, ↓wp_for, ↓wp_iLst, ↓wp_iTpl, ↓wp_iN, ↓wp_iStr, ↓wp_tYes, ↓wp_ret,
  ↓wp_fld, ↓wp_fldSet, ↓wp_meth, ↓wp_new, ↓wp_sto, ↓wp_disp, ↓wp_e2S, ↓wp_eNS, ↓wp_setS, onN_non, ↓wp_ok, ↓wp_exc, ↓wp_e1S, ↓wp_par2, ↓wp_par3, on2_go, on3_go, ↓wp_get2, ↓wp_pop1, ↓wp_appS, ↓wp_eLock, ↓wp_sLock, ↓wp_end, ↓wp_asgL, ↓wp_ext, ↓wp_eOrS, onTx_non, onTx_nil, ↓wp_free, ↓wp_iKeysD,
  onO_some, onB_bl, onI_int, onL_lst, onT_tup, onS_str, onE_go, onC_t,
  List.map_cons, List.map_nil, List.length_cons, List.length_nil, List.cons_append, List.nil_append, List.replicate, List.getElem?_cons_zero, List.getElem?_cons_succ, List.set_cons_zero, List.set_cons_succ, wipeD, decide_true, decide_false,
  Option.some.injEq, true_and, and_true, if_true, ite_true, if_false, Bool.false_eq_true, reduceIte, ite_false, Bool.not_true, Bool.not_false, Nat.reduceAdd, Nat.reduceSub, Nat.zero_add, Nat.reduceEqDiff])
theorem wp_ofE {α : Type} {r : R α} {c : Str} {s : Sto} (h : r = .exc c s) : ∀ (Q : α → Sto → Prop) (X : XP), wp r Q X = X c s := fun Q X => by rw [h]; rfl
theorem exc_of {α : Type} {r : R α} {c : Str} {s : Sto} (h : wp r (fun _ _ => False) (fun c' s' => c' = c ∧ s' = s)) : r = .exc c s := by
  cases r with
  | ok b s' => exact h.elim
  | exc c s' => obtain ⟨rfl, rfl⟩ := h; rfl
  | no => exact h.elim
structure Zt (s : Sto) (a kd : Nat) (B : Bx) (n : Nat) : Prop where
  sk : SK s a kd 1 [("in", B.bx)]
  pb : PB s B
  ok : B.Ok
  ln : B.es.length = n
  nx : B.nx = n + 1
  ls : ∀ r ∈ B.es, r.l ∈ LET
  na : a ∉ B.fp
  nk : kd ∉ B.fp
section
variable {s : Sto} {a kd n : Nat} {B : Bx}
theorem Zt.hb (h : Zt s a kd B n) : (("in" : Str), B.bx) ∈ [(("in" : Str), B.bx)] := List.mem_singleton.mpr rfl
theorem Zt.app (h : Zt s a kd B n) (l : Sto) : Zt (s ++ l) a kd B n := ⟨h.sk.fr (F := []) Fr.app (by simp) (by simp), h.pb.fr (F := []) Fr.app (by simp), h.ok, h.ln, h.nx, h.ls, h.na, h.nk⟩
theorem z_put (h : Zt s a kd B n) (hn : n < 100) {l : D} (hl : l ∈ LET) {m : List Str} (hm : Mk m) : ∃ s' B', M_Shelf_put [.obj a, .str "in", l, .lst (mD m)] s = .ok (.int B.nx) s' ∧ Zt s' a kd B' (n + 1) := by
  have nx := h.nx
  have ln := h.ln
  obtain ⟨s', e1, p, o, f⟩ := v_put h.sk h.hb h.pb h.ok hl hm (by omega) (by omega) (by omega)
  have hne : ∀ x, x ∉ B.fp → x ∉ [B.bx, B.en] := fun x hx z => hx (by
    simp only [List.mem_cons, List.not_mem_nil, or_false] at z
    rcases z with rfl | rfl <;> simp [Bx.fp])
  have nfp : ∀ x, x < s.length → x ∉ B.fp → x ∉ (B.add s.length [(l, sortT m)]).fp := fun x hx hn z => by
    have z : x ∈ B.bx :: B.en :: B.go :: (B.es ++ ([⟨B.nx, s.length, l, sortT m, B.sp + 1, B.sp + 1⟩] : List Row)).map (fun r => r.at_) := z
    rw [List.map_append] at z
    have z : x = B.bx ∨ x = B.en ∨ x = B.go ∨ x ∈ B.es.map (·.at_) ∨ x = s.length := by simpa using z
    unfold Bx.fp at hn
    simp at hn
    rcases z with z | z | z | z | z
    · exact hn.1 z
    · exact hn.2.1 z
    · exact hn.2.2.1 z
    · obtain ⟨r, hr, e⟩ := List.mem_map.mp z
      exact hn.2.2.2 r hr e
    · omega
  refine ⟨s', B.add s.length [(l, sortT m)], e1, ⟨h.sk.fr f (hne a h.na) (hne kd h.nk), p, o, ?_, ?_, ?_, nfp a (sto_lt h.sk.sh) h.na, nfp kd (sto_lt h.sk.kd) h.nk⟩⟩
  · show (B.es ++ ([⟨B.nx, s.length, l, sortT m, B.sp + 1, B.sp + 1⟩] : List Row)).length = _
    rw [List.length_append, h.ln]
    rfl
  · show B.nx + _ = _
    rw [nx]
    simp
  · intro r hr
    rcases List.mem_append.mp (show r ∈ B.es ++ ([⟨B.nx, s.length, l, sortT m, B.sp + 1, B.sp + 1⟩] : List Row) from hr) with hr | hr
    · exact h.ls r hr
    · rw [List.mem_singleton.mp hr]; exact hl
/-! ### no such box -/
def BADN : List Str := ["b", "", "in/a", "IN"]
theorem no_box (h : Zt s a kd B n) {x : Str} (hx : x ∈ BADN) : M_Shelf_box [.obj a, .str x] s = .exc "BadBox" s := by
  have a1 := h.sk.kept
  have a2 : inS2 false s (.str x) (.obj kd) = some (.bl false) := by
    rw [(in_dct (k := .str x) (dct_at h.sk.kd) rfl).1]
    have : BADN.map (fun x => dGet ([(("in" : Str), B.bx)].map fun p => ((Sum.inr p.1 : Key), D.obj p.2)) (.inr x)) = BADN.map (fun _ => none) := by kernel_rfl
    rw [List.map_inj_left.mp this x hx]; rfl
  have a3 : ∀ (s : Sto) (Q : D → Sto → Prop) (X : XP), wp (M_need_shelves [.bl false] s) Q X = X "BadBox" s := fun s => wp_ofE (v_needS false s)
  refine exc_of ?_
  unfold M_Shelf_box b_Shelf_box
  clear h hx
  walk_at "wp"
theorem no_numbers (h : Zt s a kd B n) {x : Str} (hx : x ∈ BADN) : M_Shelf_numbers [.obj a, .str x] s = .exc "BadBox" s := by
  have e1 := wp_ofE (no_box h hx)
  have e2 := h.sk.meth (m := "box")
  refine exc_of ?_
  unfold M_Shelf_numbers b_Shelf_numbers
  clear h hx
  walk_at "wp"
theorem no_piles (h : Zt s a kd B n) {x : Str} (hx : x ∈ BADN) (q : D) : M_piles [.obj a, .str x, q] s = .exc "BadBox" s := by
  have e1 := wp_ofE (no_numbers h hx)
  have e2 := h.sk.meth (m := "numbers")
  refine exc_of ?_
  unfold M_piles b_piles
  clear h hx
  walk_at "wp"
theorem no_ordered (h : Zt s a kd B n) {x : Str} (hx : x ∈ BADN) (q : D) : M_ordered [.obj a, .str x, q] s = .exc "BadBox" s := by
  have e1 := wp_ofE (no_numbers h hx)
  have e2 := h.sk.meth (m := "numbers")
  refine exc_of ?_
  unfold M_ordered b_ordered
  clear h hx
  walk_at "wp"
theorem no_tally (h : Zt s a kd B n) {x : Str} (hx : x ∈ BADN) : M_tally [.obj a, .str x] s = .exc "BadBox" (s ++ [.dct []]) := by
  have e1 := wp_ofE (no_numbers (h.app [.dct []]) hx)
  have e2 := (h.app [.dct []]).sk.meth (m := "numbers")
  have e3 : obOf (.dct []) = some (.dct []) := rfl
  refine exc_of ?_
  unfold M_tally b_tally
  clear h hx
  walk_at "wp"
def wt1 (a : Nat) : Ob := .ins "Watch" [("shelf", .obj a)]
theorem no_watch (h : Zt s a kd B n) {x : Str} (hx : x ∈ BADN) (q : D) : ∀ (Q : D → Sto → Prop) (X : XP), wp (M_Watch___init__ [.obj s.length, .obj a, .str x, q] (s ++ [.ins "Watch" []])) Q X = X "BadBox" (s ++ [wt1 a]) := fun Q X => by
  have f1 : setFld ["Watch"] "shelf" (.obj a) (s ++ [.ins "Watch" []]) (.obj s.length) = some (s ++ [wt1 a]) := by
    rw [setFld_at sto_new (by simp) (by decide), sto_setNew]; rfl
  have e1 := wp_ofE (no_box (h.app [wt1 a]) hx)
  have e2 := (h.app [wt1 a]).sk.meth (m := "box")
  unfold M_Watch___init__ b_Watch___init__
  clear h hx
  generalize s ++ [wt1 a] = s1 at *
  walk_at "wp"
/-! ### queries that are none -/
def BADQ : List D := [.non, .tup [], .tup [.str "all", .int 1], .tup [.str "mark", .str "A"], .tup [.str "not"], .tup [.str "head", .str "a", .str "\""], .lst [.str "all"], .tup [.str "numbers", .str ""]]
theorem bad_q (s : Sto) : ∀ q ∈ BADQ, M_need_query [q] s = .exc "BadQuery" s := fun q hq => by
  have k : BADQ.map (fun q => M_need_query [q] s) = BADQ.map (fun _ => .exc "BadQuery" s) := by kernel_rfl
  exact List.map_inj_left.mp k q hq
theorem bad_qs (s : Sto) : ∀ q ∈ BADQ, M_need_queries [q] s = .exc "BadQuery" s := fun q hq => by
  have k : BADQ.map (fun q => M_need_queries [q] s) = BADQ.map (fun _ => .exc "BadQuery" s) := by kernel_rfl
  exact List.map_inj_left.mp k q hq
theorem bad_qs2 (s : Sto) : ∀ q ∈ BADQ, M_need_queries [.lst [.tup [.str "all"], q]] s = .exc "BadQuery" s := fun q hq => by
  have k : BADQ.map (fun q => M_need_queries [.lst [.tup [.str "all"], q]] s) = BADQ.map (fun _ => .exc "BadQuery" s) := by kernel_rfl
  exact List.map_inj_left.mp k q hq
theorem bad_13 (s : Sto) : M_need_queries [.lst (List.replicate 13 (.tup [.str "all"]))] s = .exc "BadQuery" s := by kernel_rfl
theorem bad_asked (h : Zt s a kd B n) {q : D} (hq : q ∈ BADQ) : M_asked [.obj a, .str "in", q] s = .exc "BadQuery" s := by
  have e1 := wp_of (v_box h.sk h.hb)
  have e2 := h.sk.meth (m := "box")
  have e3 := wp_ofE (bad_q s q hq)
  refine exc_of ?_
  unfold M_asked b_asked
  clear h hq
  walk_at "wp"
theorem bad_piles (h : Zt s a kd B n) {q : D} (hq : M_need_queries [q] s = .exc "BadQuery" s) : M_piles [.obj a, .str "in", q] s = .exc "BadQuery" s := by
  have e1 := wp_of (v_numbers h.sk h.hb h.pb h.ok)
  have e2 := h.sk.meth (m := "numbers")
  have e3 := wp_ofE hq
  refine exc_of ?_
  unfold M_piles b_piles
  clear h hq
  generalize B.keys.map D.int = ks at *
  walk_at "wp"
def wt2 (a : Nat) (st : Int) : Ob := .ins "Watch" [("shelf", .obj a), ("stamp", .int st)]
def wt3 (a : Nat) (st : Int) (q : D) : Ob := .ins "Watch" [("shelf", .obj a), ("stamp", .int st), ("wanted", q)]
theorem bad_watch (h : Zt s a kd B n) {q : D} (hq : q ∈ BADQ) : ∀ (Q : D → Sto → Prop) (X : XP), wp (M_Watch___init__ [.obj s.length, .obj a, .str "in", q] (s ++ [.ins "Watch" []])) Q X = X "BadQuery" (s ++ [wt3 a B.st q]) := fun Q X => by
  have f1 : setFld ["Watch"] "shelf" (.obj a) (s ++ [.ins "Watch" []]) (.obj s.length) = some (s ++ [wt1 a]) := by
    rw [setFld_at sto_new (by simp) (by decide), sto_setNew]; rfl
  have f2 : setFld ["Box", "Watch"] "stamp" (.int B.st) (s ++ [wt1 a]) (.obj s.length) = some (s ++ [wt2 a B.st]) := by
    unfold wt1
    rw [setFld_at sto_new (by simp) (by show 1 < 1000; decide), sto_setNew]; rfl
  have f3 : setFld ["Watch"] "wanted" q (s ++ [wt2 a B.st]) (.obj s.length) = some (s ++ [wt3 a B.st q]) := by
    unfold wt2
    rw [setFld_at sto_new (by simp) (by show 2 < 1000; decide), sto_setNew]; rfl
  have h1 := h.app [wt1 a]
  have h3 := h.app [wt3 a B.st q]
  have e1 := wp_of (v_box h1.sk h1.hb)
  have e2 := h1.sk.meth (m := "box")
  have e4 := h1.pb.stamp
  have e3 := wp_ofE (bad_asked h3 hq)
  unfold M_Watch___init__ b_Watch___init__
  clear h hq h1 h3
  generalize s ++ [wt1 a] = s1 at *
  generalize s ++ [wt2 a B.st] = s2 at *
  generalize s ++ [wt3 a B.st q] = s3 at *
  walk_at "wp"
end
end K95

set_option Elab.async false
set_option linter.all false
set_option maxRecDepth 100000
set_option maxHeartbeats 4000000
/-! ordered: one key -/
namespace K95
open PySem Mir SX L2
local macro_rules | `(tactic| walk_at "wp") => `(tactic| simp -dsimp (disch := first | omega | assumption | (simp only [List.length_cons, List.length_nil, List.length_append, List.length_map]; omega)) only [*, ↓wp_eAnd, ↓wp_eOr, ↓wp_ch, ↓wp_c, ↓wp_var, ↓wp_e1, ↓wp_e2, ↓wp_eN, ↓wp_cons, ↓wp_nil, ↓wp_call, ↓wp_mt, ↓wp_sl, ↓wp_oNone, ↓wp_oSome, ↓wp_tB1, ↓wp_tNot, ↓wp_tAnd, ↓wp_tOr, ↓wp_eIf, ↓wp_told, ↓wp_next, ↓wp_raise, ↓wp_seq, ↓wp_expr, ↓wp_set, ↓wp_setO, ↓wp_setI, ↓wp_retS, ↓wp_retN, ↓wp_break, ↓wp_cont, ↓wp_if, ↓wp_app, ↓wp_asg, ↓wp_fn, ↓wp_for, ↓wp_iLst, ↓wp_iTpl, ↓wp_iN, ↓wp_iStr, ↓wp_tYes, ↓wp_ret,
  ↓wp_fld, ↓wp_fldSet, ↓wp_meth, ↓wp_new, ↓wp_sto, ↓wp_disp, ↓wp_e2S, ↓wp_eNS, ↓wp_setS, onN_non, ↓wp_ok, ↓wp_exc, ↓wp_e1S, ↓wp_par2, ↓wp_par3, on2_go, on3_go, ↓wp_get2, ↓wp_pop1, ↓wp_appS, ↓wp_eLock, ↓wp_sLock, ↓wp_end, ↓wp_asgL, ↓wp_ext, ↓wp_eOrS, onTx_non, onTx_nil, ↓wp_free, ↓wp_iKeysD,
  onO_some, onB_bl, onI_int, onL_lst, onT_tup, onS_str, onE_go, onC_t,
  List.map_cons, List.map_nil, List.length_cons, List.length_nil, List.cons_append, List.nil_append, List.replicate, List.getElem?_cons_zero, List.getElem?_cons_succ, List.set_cons_zero, List.set_cons_succ, wipeD, decide_true, decide_false,
  Option.some.injEq, true_and, and_true, if_true, ite_true, if_false, Bool.false_eq_true, reduceIte, ite_false, Bool.not_true, Bool.not_false, Nat.reduceAdd, Nat.reduceSub, Nat.zero_add, Nat.reduceEqDiff])
def inK (k : Key) (l : List Key) : Bool := l.any fun q => decide (q = k)
theorem inK_iff {k : Key} {l : List Key} : inK k l = true ↔ k ∈ l := by
  unfold inK
  rw [List.any_eq_true]
  exact ⟨fun ⟨q, h, e⟩ => of_decide_eq_true e ▸ h, fun h => ⟨k, h, decide_eq_true rfl⟩⟩
theorem inK_false {k : Key} {l : List Key} (h : k ∉ l) : inK k l = false := by
  cases z : inK k l with
  | false => rfl
  | true => exact absurd (inK_iff.mp z) h
def dst (l : List Key) : List Key := l.foldl (fun acc k => if inK k acc = true then acc else acc ++ [k]) []
theorem dst_snoc (l : List Key) (k : Key) : dst (l ++ [k]) = if inK k (dst l) = true then dst l else dst l ++ [k] := by unfold dst; rw [List.foldl_append]; rfl
theorem snoc_ind {α : Type} {P : List α → Prop} (h0 : P []) (h1 : ∀ l a, P l → P (l ++ [a])) : ∀ l, P l := fun l => by
  have : ∀ l : List α, P l.reverse := fun l => by
    induction l with
    | nil => exact h0
    | cons a l ih => rw [List.reverse_cons]; exact h1 _ _ ih
  have := this l.reverse
  rwa [List.reverse_reverse] at this
theorem mem_dst {k : Key} : ∀ l, k ∈ dst l ↔ k ∈ l := snoc_ind (by simp [dst]) fun l a ih => by
  rw [dst_snoc]
  by_cases h : a ∈ dst l
  · rw [if_pos (inK_iff.mpr h), ih, List.mem_append, List.mem_singleton]
    constructor
    · exact .inl
    · rintro (z | rfl)
      · exact z
      · exact ih.mp h
  · rw [if_neg (fun z => h (inK_iff.mp z)), List.mem_append, List.mem_append, ih]
theorem nd_dst : ∀ l, (dst l).Nodup := snoc_ind (by simp [dst]) fun l a ih => by
  rw [dst_snoc]
  by_cases h : a ∈ dst l
  · rw [if_pos (inK_iff.mpr h)]; exact ih
  · rw [if_neg (fun z => h (inK_iff.mp z)), List.nodup_append]
    refine ⟨ih, by simp, fun x hx y hy => ?_⟩
    rw [List.mem_singleton] at hy
    rintro rfl
    rw [hy] at hx
    exact h hx
theorem dst_len : ∀ l, (dst l).length ≤ l.length := snoc_ind (by simp [dst]) fun l a ih => by
  rw [dst_snoc]
  split
  · rw [List.length_append]; omega
  · rw [List.length_append, List.length_append]; simp; exact ih
def rowV (w : Int → Key) (fs : List Int) (k : Key) : D := .lst ((fs.filter fun x => decide (w x = k)).map D.int)
def rowsK (w : Int → Key) (fs : List Int) : List (Key × D) := (dst (fs.map w)).map fun k => (k, rowV w fs k)
theorem get_map {f : Key → D} {k : Key} : ∀ {l : List Key}, dGet (l.map fun k => (k, f k)) k = if inK k l = true then some (f k) else none
  | [] => rfl
  | q :: l => by
    rw [List.map_cons, dGet_cons, get_map (l := l)]
    by_cases h : q = k
    · subst h; simp [inK]
    · rw [if_neg h, show inK k (q :: l) = (decide (q = k) || inK k l) from rfl, decide_eq_false h, Bool.false_or]
theorem rows_get (w : Int → Key) (fs : List Int) (k : Key) : (dGet (rowsK w fs) k).getD (.lst []) = rowV w fs k := by
  unfold rowsK
  rw [get_map]
  by_cases h : k ∈ dst (fs.map w)
  · rw [if_pos (inK_iff.mpr h)]; rfl
  · rw [if_neg (fun z => h (inK_iff.mp z))]
    have : fs.filter (fun x => decide (w x = k)) = [] := List.filter_eq_nil_iff.mpr fun x hx z => h ((mem_dst _).mpr (List.mem_map.mpr ⟨x, hx, of_decide_eq_true z⟩))
    unfold rowV
    rw [this]; rfl
theorem any_map {f : Key → D} {k : Key} (l : List Key) : ((l.map fun k => (k, f k)).any fun kv => decide (kv.1 = k)) = inK k l := by
  unfold inK
  rw [List.any_map]
  rfl
theorem rowV_snoc (w : Int → Key) (fs : List Int) (x : Int) (k : Key) : rowV w (fs ++ [x]) k = if w x = k then .lst ((fs.filter fun x => decide (w x = k)).map D.int ++ [.int x]) else rowV w fs k := by
  unfold rowV
  rw [List.filter_append]
  by_cases h : w x = k
  · rw [if_pos h]; simp [h]
  · rw [if_neg h]; simp [h]
theorem rows_put (w : Int → Key) (fs : List Int) (x : Int) : dPut (rowsK w fs) (w x) (.lst ((fs.filter fun y => decide (w y = w x)).map D.int ++ [.int x])) = rowsK w (fs ++ [x]) := by
  unfold dPut rowsK
  rw [any_map, List.map_append, List.map_cons, List.map_nil, dst_snoc]
  by_cases h : w x ∈ dst (fs.map w)
  · rw [inK_iff.mpr h, if_pos rfl, if_pos rfl, List.map_map]
    refine List.map_congr_left fun k hk => ?_
    show (if k = w x then _ else _) = _
    rw [rowV_snoc]
    by_cases e : k = w x
    · subst e; simp
    · rw [if_neg e, if_neg (Ne.symm e)]
  · rw [inK_false h, if_neg Bool.false_ne_true, if_neg Bool.false_ne_true, List.map_append]
    congr 1
    · refine List.map_congr_left fun k hk => ?_
      rw [rowV_snoc, if_neg fun e => h (by rw [e]; exact hk)]
    · show [_] = [(w x, rowV w (fs ++ [x]) (w x))]
      rw [rowV_snoc, if_pos rfl]
def wB : SD := (sSeq (sSet 7 (eCall M_worth (aCons (eVar 0) (aCons (eVar 1) (aCons (eVar 6) (aCons (eVar 4) aNil))))))
    (sSetS (eVar 5) (eVar 7) (e2 addDT (eGet2 (eVar 5) (eVar 7) (eN mkL aNil)) (eN mkL (aCons (eVar 6) aNil)))))
def xB : SD := (sExt 3 (e2S ixS (eVar 5) (eVar 7)))
def ordB : SD := (sSeq (sSet 5 (eSto (eC (.dct []))))
    (sSeq (sFree 3 (sFor (iLst (eVar 3)) (gNm 6) wB))
    (sSeq (sSet 8 (eNS sortS3 (aCons (eVar 5) aNil)))
    (sSeq (sIf (tB1 (e2S ixS (eVar 4) (e1 negI (eC (.int 1))))) (sSet 8 (e1S revS (eVar 8))) sNext)
    (sSeq (sSetO 3 (eN mkL aNil))
    (sFor (iLst (eVar 8)) (gNm 7) xB))))))
theorem key_kD (k : Key) : keyD (kD k) = some k := by cases k <;> rfl
theorem add_lst1 (l : List D) (d : D) (h : l.length < 100000) : addDT (.lst l) (.lst [d]) = some (.lst (l ++ [d])) := by
  have e0 : addL (.lst l) (.lst [d]) = some (.lst (l ++ [d])) := by
    show (if small (l.length + 1) = true then _ else _) = _
    rw [if_pos (small_of (by omega))]
  show (match addL (.lst l) (.lst [d]) with | some d => some d | none => addT (.lst l) (.lst [d])) = _
  rw [e0]
theorem sortK_perm {ks ys : List Key} (h : sortK ks = some ys) : ys.Perm ks := by
  unfold sortK at h
  cases hi : intsK ks with
  | some is =>
    rw [hi] at h
    cases h
    rw [intsK_ok hi]
    exact (sortI_perm is).map _
  | none =>
    rw [hi] at h
    have h : (strsK ks).map (fun xs => (sortT xs).map Sum.inr) = some ys := h
    cases hs : strsK ks with
    | none => rw [hs] at h; cases h
    | some xs =>
      rw [hs] at h
      cases h
      rw [strsK_ok hs]
      exact (sortT_perm xs).map _
def grp (ks : List Key) (w : Int → Key) (fs : List Int) : List Int := ks.flatMap fun k => fs.filter fun x => decide (w x = k)
theorem grp_perm (w : Int → Key) (fs : List Int) : ∀ {ks : List Key}, ks.Nodup → (grp ks w fs).Perm (fs.filter fun x => inK (w x) ks)
  | [], _ => by simp [grp, inK]
  | k :: ks, h => by
    have h := List.nodup_cons.mp h
    have ih := grp_perm w fs h.2
    have e : grp (k :: ks) w fs = (fs.filter fun x => decide (w x = k)) ++ grp ks w fs := by unfold grp; rw [List.flatMap_cons]
    rw [e]
    refine (ih.append_left _).trans ?_
    have q := List.filter_append_perm (fun x => decide (w x = k)) (fs.filter fun x => inK (w x) (k :: ks))
    rw [List.filter_filter, List.filter_filter] at q
    refine (List.Perm.of_eq ?_).trans q
    congr 1
    · refine List.filter_congr fun x hx => ?_
      by_cases z : w x = k <;> simp [z, inK]
    · refine List.filter_congr fun x hx => ?_
      by_cases z : w x = k
      · rw [z, inK_false h.1]; simp
      · simp [z, inK, Ne.symm z]
theorem grp_len {w : Int → Key} {fs : List Int} {ks : List Key} (h : ks.Nodup) : (grp ks w fs).length ≤ fs.length := by
  rw [(grp_perm w fs h).length_eq]
  exact List.length_filter_le _ _
section
variable {s : Sto} {a : Nat} {name : Str} {key : D} {fs : List Int} {w : Int → Key}
theorem v_wB {i : Nat} {x : Int} (hx : fs[i]? = some x) (hz : fs.length < 100000) (hw : ∀ l, M_worth [.obj a, .str name, .int x, key] (s ++ l) = .ok (kD (w x)) (s ++ l)) {x2 x3 x7 x8 : Option D} (Q : Fl → Sto → Prop) (X : XP) :
    wp (wB [some (.obj a), some (.str name), x2, x3, some key, some (.obj s.length), some (.int x), x7, x8] (s ++ [.dct (rowsK w (fs.take i))])) Q X = Q (.nx [some (.obj a), some (.str name), x2, x3, some key, some (.obj s.length), some (.int x), some (kD (w x)), x8]) (s ++ [.dct (rowsK w (fs.take (i + 1)))]) := by
  have e1 := wp_of (hw [.dct (rowsK w (fs.take i))])
  have at_ : (s ++ [.dct (rowsK w (fs.take i))])[s.length]? = some (.dct (rowsK w (fs.take i))) := by simp
  have d1 : isDS (s ++ [.dct (rowsK w (fs.take i))]) (.obj s.length) = true := by unfold isDS; rw [dct_at at_]; rfl
  have d2 : getS (s ++ [.dct (rowsK w (fs.take i))]) (.obj s.length) (kD (w x)) (.lst []) = some (rowV w (fs.take i) (w x)) := by
    unfold getS
    rw [dct_at at_, key_kD]
    show some ((dGet (rowsK w (fs.take i)) (w x)).getD (.lst [])) = _
    rw [rows_get]
  have hlt : i < fs.length := (List.getElem?_eq_some_iff.mp hx).1
  have d3 : addDT (rowV w (fs.take i) (w x)) (.lst [.int x]) = some (.lst (((fs.take i).filter fun y => decide (w y = w x)).map D.int ++ [.int x])) := by
    refine add_lst1 _ _ ?_
    rw [List.length_map]
    have := List.length_filter_le (fun y => decide (w y = w x)) (fs.take i)
    have := List.length_take_le i fs
    omega
  have d4 : setS (s ++ [.dct (rowsK w (fs.take i))]) (.obj s.length) (kD (w x)) (.lst (((fs.take i).filter fun y => decide (w y = w x)).map D.int ++ [.int x])) = some (s ++ [.dct (rowsK w (fs.take (i + 1)))]) := by
    rw [set_dct at_ (key_kD _) ?_, sto_setNew, rows_put]
    · rw [List.take_succ, hx]; rfl
    · unfold rowsK
      rw [List.length_map]
      have := dst_len ((fs.take i).map w)
      rw [List.length_map] at this
      have := List.length_take_le i fs
      omega
  have m0 : mkL [] = some (.lst []) := rfl
  have m1 : mkL [.int x] = some (.lst [.int x]) := by kernel_rfl
  clear hx hw at_ hlt hz
  unfold wB
  generalize s ++ [.dct (rowsK w (fs.take i))] = s1 at *
  generalize s ++ [.dct (rowsK w (fs.take (i + 1)))] = s2 at *
  generalize rowV w (fs.take i) (w x) = rv at *
  generalize D.lst (((fs.take i).filter fun y => decide (w y = w x)).map D.int ++ [.int x]) = lv at *
  generalize kD (w x) = kw at *
  walk_at "wp"
theorem v_ordB (hz : fs.length < 100000) (hw : ∀ x ∈ fs, ∀ l, M_worth [.obj a, .str name, .int x, key] (s ++ l) = .ok (kD (w x)) (s ++ l)) {ks : List Key} (hs : sortK (dst (fs.map w)) = some ks) {rv : Bool} (hr : ∀ s, ixS s key (.int (-1)) = some (.bl rv)) {x2 x5 x6 x7 x8 : Option D} {Q : Fl → Sto → Prop} {X : XP}
    (hQ : ∀ y5 y6 y7 y8 l, Q (.nx [some (.obj a), some (.str name), x2, some (.lst ((grp (if rv then ks.reverse else ks) w fs).map D.int)), some key, y5, y6, y7, y8]) (s ++ l)) :
    wp (ordB [some (.obj a), some (.str name), x2, some (.lst (fs.map D.int)), some key, x5, x6, x7, x8] s) Q X := by
  have o1 : obOf (.dct []) = some (.dct []) := rfl
  have m0 : mkL [] = some (.lst []) := rfl
  have c0 : isCt (.lst []) = true := rfl
  have n1 : negI (.int 1) = some (.int (-1)) := rfl
  have at_ : (s ++ [.dct (rowsK w fs)])[s.length]? = some (.dct (rowsK w fs)) := by simp
  have kl : (rowsK w fs).map (·.1) = dst (fs.map w) := by
    unfold rowsK
    rw [List.map_map]
    exact List.map_id _
  have dl : (dst (fs.map w)).length < 100000 := by
    have := dst_len (fs.map w)
    rw [List.length_map] at this
    omega
  have f1 : sortS3 (s ++ [.dct (rowsK w fs)]) [.obj s.length] = some (.lst (ks.map kD)) := by
    have hq : seqL (s ++ [.dct (rowsK w fs)]) (.obj s.length) = none := by
      show (match (s ++ [.dct (rowsK w fs)])[s.length]? with | some (.lst xs) => some xs | _ => none) = _
      rw [at_]
    have hk : keysOfS (s ++ [.dct (rowsK w fs)]) (.obj s.length) = some (dst (fs.map w)) := by
      unfold keysOfS
      rw [hq, dct_at at_]
      show some ((rowsK w fs).map (·.1)) = _
      rw [kl]
    show (keysOfS _ (.obj s.length)).bind _ = _
    rw [hk]
    show (if small (dst (fs.map w)).length = true then (sortK (dst (fs.map w))).map (fun ys => D.lst (ys.map kD)) else none) = _
    rw [if_pos (small_of (by omega)), hs]
    rfl
  have f2 : ∀ s, revS s (.lst (ks.map kD)) = some (.lst (ks.reverse.map kD)) := fun s => by
    show some (D.lst (ks.map kD).reverse) = _
    rw [List.map_reverse]
  have e0 : s ++ [Ob.dct []] = s ++ [.dct (rowsK w (fs.take 0))] := rfl
  have hv := fun {i : Nat} {x : Int} (hx : fs[i]? = some x) {x7 : Option D} (Q : Fl → Sto → Prop) (X : XP) => v_wB (x2 := x2) (x3 := some (.lst (fs.map D.int))) (x7 := x7) (x8 := x8) hx hz (hw x (List.mem_of_getElem? hx)) Q X
  have fin : ∀ (kk : List Key), kk = (if rv then ks.reverse else ks) → ∀ y6 y7, wp (forGo (gNm 7) xB (kk.map kD) [some (.obj a), some (.str name), x2, some (.lst []), some key, some (.obj s.length), y6, y7, some (.lst (kk.map kD))] (s ++ [.dct (rowsK w fs)])) Q X := by
    intro kk hkk y6 y7
    have mem : ∀ k ∈ kk, k ∈ dst (fs.map w) := fun k hk => by
      have : k ∈ ks := by
        rw [hkk] at hk
        split at hk
        · exact List.mem_reverse.mp hk
        · exact hk
      exact (sortK_perm hs).mem_iff.mp this
    have nd : kk.Nodup := by
      have : ks.Nodup := (sortK_perm hs).nodup_iff.mpr (nd_dst _)
      rw [hkk]
      split
      · exact (List.reverse_perm ks).nodup_iff.mpr this
      · exact this
    have gl : ∀ i, (grp (kk.take i) w fs).length ≤ fs.length := fun i => grp_len (nd.sublist (List.take_sublist _ _))
    rw [← hkk] at hQ
    clear hs hw hv f1 f2 hkk e0 kl
    refine wp_forGo _ (fun i τ s' => s' = s ++ [.dct (rowsK w fs)] ∧ ∃ y7, τ = [some (.obj a), some (.str name), x2, some (.lst ((grp (kk.take i) w fs).map D.int)), some key, some (.obj s.length), y6, y7, some (.lst (kk.map kD))]) _ _ ⟨rfl, _, rfl⟩ ?_ ?_
    · rintro i d τ s' hd ⟨rfl, y7, rfl⟩
      obtain ⟨k, hk, rfl⟩ : ∃ k, kk[i]? = some k ∧ d = kD k := by
        rw [List.getElem?_map] at hd
        cases z : kk[i]? with
        | none => rw [z] at hd; cases hd
        | some k => rw [z] at hd; cases hd; exact ⟨k, rfl, rfl⟩
      refine ⟨_, rfl, ?_⟩
      have g1 : ixS (s ++ [.dct (rowsK w fs)]) (.obj s.length) (kD k) = some (rowV w fs k) := by
        rw [ix_dct (dct_at at_) (key_kD k)]
        unfold rowsK
        rw [get_map, if_pos (inK_iff.mpr (mem k (List.mem_of_getElem? hk)))]
      have g2 : ∀ s, seqL s (rowV w fs k) = some ((fs.filter fun x => decide (w x = k)).map D.int) := fun s => rfl
      have g3 : small (((grp (kk.take i) w fs).map D.int).length + ((fs.filter fun x => decide (w x = k)).map D.int).length) = true := by
        refine small_of ?_
        have := gl i
        have := List.length_filter_le (fun x => decide (w x = k)) fs
        rw [List.length_map, List.length_map]
        omega
      have g4 : (grp (kk.take i) w fs).map D.int ++ (fs.filter fun x => decide (w x = k)).map D.int = (grp (kk.take (i + 1)) w fs).map D.int := by
        rw [List.take_succ, hk]
        unfold grp
        rw [List.flatMap_append, List.map_append]
        simp
      unfold xB
      rw [← g4]
      generalize (grp (kk.take i) w fs).map D.int = l1 at *
      generalize (fs.filter fun x => decide (w x = k)).map D.int = l2 at *
      generalize rowV w fs k = rr at *
      generalize s ++ [.dct (rowsK w fs)] = s1 at *
      generalize kD k = dk at *
      clear hQ at_ dl mem nd gl g4 hk hd
      walk_at "wp"
      exact ⟨_, rfl⟩
    · rintro τ s' ⟨rfl, y7, rfl⟩
      rw [List.length_map, List.take_length]
      exact hQ _ _ _ _ _
  unfold ordB
  generalize hF : fs.map D.int = fD at *
  have hL : fD.length = fs.length := by rw [← hF, List.length_map]
  clear hQ hw
  walk_at "wp"
  refine wp_forGo _ (fun i τ s' => s' = s ++ [.dct (rowsK w (fs.take i))] ∧ ∃ y6 y7, τ = [some (.obj a), some (.str name), x2, some (.lst fD), some key, some (.obj s.length), y6, y7, x8]) _ _ ⟨rfl, _, _, rfl⟩ ?_ ?_
  · rintro i d τ s' hd ⟨rfl, y6, y7, rfl⟩
    obtain ⟨x, hx, rfl⟩ : ∃ x, fs[i]? = some x ∧ d = .int x := by
      rw [← hF, List.getElem?_map] at hd
      cases z : fs[i]? with
      | none => rw [z] at hd; cases hd
      | some k => rw [z] at hd; cases hd; exact ⟨k, rfl, rfl⟩
    refine ⟨_, rfl, ?_⟩
    exact (hv hx _ _).mpr ⟨rfl, _, _, rfl⟩
  · rintro τ s' ⟨rfl, y6, y7, rfl⟩
    rw [hL, List.take_length]
    show wp _ _ _
    have q := fin _ rfl y6 y7
    clear hv fin kl dl at_ hs
    generalize s ++ [.dct (rowsK w fs)] = s1 at *
    cases rv with
    | true =>
      have q : wp (forGo (gNm 7) xB (ks.reverse.map kD) [some (.obj a), some (.str name), x2, some (.lst []), some key, some (.obj s.length), y6, y7, some (.lst (ks.reverse.map kD))] s1) Q X := q
      walk_at "wp"
    | false =>
      have q : wp (forGo (gNm 7) xB (ks.map kD) [some (.obj a), some (.str name), x2, some (.lst []), some key, some (.obj s.length), y6, y7, some (.lst (ks.map kD))] s1) Q X := q
      walk_at "wp"
end
end K95

set_option Elab.async false
set_option linter.all false
set_option maxRecDepth 100000
set_option maxHeartbeats 4000000
/-! lists -/
namespace K95
open PySem Mir SX L2
local macro_rules | `(tactic| walk_at "wp") => `(tactic| simp -dsimp (disch := first | omega | assumption | (simp only [List.length_cons, List.length_nil, List.length_append, List.length_map]; omega)) only [*, ↓wp_eAnd, ↓wp_eOr, ↓wp_ch, ↓wp_c, ↓wp_var, ↓wp_e1, ↓wp_e2, ↓wp_eN, ↓wp_cons, ↓wp_nil, ↓wp_call, ↓wp_mt, ↓wp_sl, ↓wp_oNone, ↓wp_oSome, ↓wp_tB1, ↓wp_tNot, ↓wp_tAnd, ↓wp_tOr, ↓wp_eIf, ↓wp_told, ↓wp_next, ↓wp_raise, ↓wp_seq, ↓wp_expr, ↓wp_set, ↓wp_setO, ↓wp_setI, ↓wp_retS, ↓wp_retN, ↓wp_break, ↓wp_cont, ↓wp_if, ↓wp_app, ↓wp_asg, ↓wp_fn, ↓wp_for, ↓wp_iLst, ↓wp_iTpl, ↓wp_iN, ↓wp_iStr, ↓wp_tYes, ↓wp_ret,
  ↓wp_fld, ↓wp_fldSet, ↓wp_meth, ↓wp_new, ↓wp_sto, ↓wp_disp, ↓wp_e2S, ↓wp_eNS, ↓wp_setS, onN_non, ↓wp_ok, ↓wp_exc, ↓wp_e1S, ↓wp_par2, ↓wp_par3, on2_go, on3_go, ↓wp_get2, ↓wp_pop1, ↓wp_appS, ↓wp_eLock, ↓wp_sLock, ↓wp_end, ↓wp_asgL, ↓wp_ext, ↓wp_eOrS, onTx_non, onTx_nil, ↓wp_free, ↓wp_iKeysD,
  onO_some, onB_bl, onI_int, onL_lst, onT_tup, onS_str, onE_go, onC_t,
  List.map_cons, List.map_nil, List.length_cons, List.length_nil, List.cons_append, List.nil_append, List.replicate, List.getElem?_cons_zero, List.getElem?_cons_succ, List.set_cons_zero, List.set_cons_succ, wipeD, decide_true, decide_false,
  Option.some.injEq, true_and, and_true, if_true, ite_true, if_false, Bool.false_eq_true, reduceIte, ite_false, Bool.not_true, Bool.not_false, Nat.reduceAdd, Nat.reduceSub, Nat.zero_add, Nat.reduceEqDiff])
theorem scalDs_int (m : List Int) : scalDs (m.map D.int) = some (m.map V.int) := by
  induction m with
  | nil => rfl
  | cons a m ih =>
    show (match scalD (.int a), scalDs (m.map D.int) with | some v, some vs => some (v :: vs) | _, _ => none) = _
    rw [ih]; rfl
theorem inV_int (x : Int) (m : List Int) : inV (.int x) (m.map V.int) = decide (x ∈ m) := by
  induction m with
  | nil => rfl
  | cons a m ih =>
    have e : inV (.int x) ((a :: m).map V.int) = ((a == x) || inV (.int x) (m.map V.int)) := rfl
    rw [e, ih]
    by_cases h1 : a = x
    · subst h1; simp
    · have : ¬ x = a := fun z => h1 z.symm
      simp [h1, this]
theorem notInI (s : Sto) (x : Int) (m : List Int) : inS2 true s (.int x) (.lst (m.map D.int)) = some (.bl (!decide (x ∈ m))) := by
  show notInD (.int x) (.lst (m.map D.int)) = _
  refine orO_r rfl ?_
  show (scalDs (m.map D.int)).map (fun vs => D.bl (if true then !inV (.int x) vs else inV (.int x) vs)) = _
  rw [scalDs_int]
  show some (D.bl (!inV (.int x) (m.map V.int))) = _
  rw [inV_int]
theorem inI (s : Sto) (x : Int) (m : List Int) : inS2 false s (.int x) (.lst (m.map D.int)) = some (.bl (decide (x ∈ m))) := by
  show inD (.int x) (.lst (m.map D.int)) = _
  refine orO_r rfl ?_
  show (scalDs (m.map D.int)).map (fun vs => D.bl (if false then !inV (.int x) vs else inV (.int x) vs)) = _
  rw [scalDs_int]
  show some (D.bl (inV (.int x) (m.map V.int))) = _
  rw [inV_int]
theorem lcGo_map {α : Type} {tg : D → Ev → Option Ev} {ts : TD} {el : ED} {τ : Ev} {s : Sto} {i : α → D} (p : α → Bool) (f : α → D) : ∀ (l : List α), (∀ a ∈ l, ∃ τ1, tg (i a) τ = some τ1 ∧ ts τ1 s = .ok (p a) s ∧ (p a = true → el τ1 s = .ok (f a) s)) → lcGo tg ts el τ (l.map i) s = .ok ((l.filter p).map f) s
  | [], _ => rfl
  | a :: l, h => by
    obtain ⟨τ1, e1, h1, h2⟩ := h a List.mem_cons_self
    have ih := lcGo_map p f l fun e he => h e (List.mem_cons_of_mem _ he)
    rw [List.map_cons]
    unfold lcGo
    rw [e1]
    show (ts τ1 s).bind _ = _
    rw [h1]
    cases hp : p a with
    | true =>
      show (el τ1 s).bind _ = _
      rw [h2 hp]
      show (lcGo tg ts el τ (l.map i) s).bind _ = _
      rw [ih, List.filter_cons, if_pos hp]
      rfl
    | false =>
      show lcGo tg ts el τ (l.map i) s = _
      rw [ih, List.filter_cons, if_neg (by rw [hp]; exact Bool.false_ne_true)]
theorem lc0_map {α : Type} {it : AD} {tg : D → Ev → Option Ev} {ts : TD} {el : ED} {vs : List Nat} {τ : Ev} {s : Sto} {l : List α} {i : α → D} (p : α → Bool) (f : α → D) (hi : it τ s = .ok (l.map i) s) (hz : l.length < 1000000) (h : ∀ a ∈ l, ∃ τ1, tg (i a) (wipeD τ vs) = some τ1 ∧ ts τ1 s = .ok (p a) s ∧ (p a = true → el τ1 s = .ok (f a) s)) : eLc0 it tg ts el vs τ s = .ok (.lst ((l.filter p).map f)) s := by
  unfold eLc0; rw [hi]; show (if small (l.map i).length = true then fun s => noX ((lcGo tg ts el (wipeD τ vs) (l.map i) s).bind fun ys => M.ret (D.lst ys)) else fun _ => .no) s = _; rw [if_pos (small_of (by rw [List.length_map]; omega))]; show noX ((lcGo tg ts el (wipeD τ vs) (l.map i) s).bind _) = _; rw [lcGo_map p f l h]; rfl
/-- each thing -/
theorem lc0_each {α : Type} {it : AD} {tg : D → Ev → Option Ev} {el : ED} {vs : List Nat} {τ : Ev} {s : Sto} {l : List α} {i : α → D} (f : α → D) (hi : it τ s = .ok (l.map i) s) (hz : l.length < 1000000) (h : ∀ a ∈ l, ∃ τ1, tg (i a) (wipeD τ vs) = some τ1 ∧ el τ1 s = .ok (f a) s) : eLc0 it tg tYesD el vs τ s = .ok (.lst (l.map f)) s := by
  have e := lc0_map (it := it) (tg := tg) (ts := tYesD) (el := el) (vs := vs) (τ := τ) (s := s) (l := l) (i := i) (fun _ => true) f hi hz fun a ha => by
    obtain ⟨τ1, e1, e2⟩ := h a ha
    exact ⟨τ1, e1, rfl, fun _ => e2⟩
  rw [List.filter_eq_self.mpr (fun _ _ => rfl)] at e
  exact e
end K95

set_option Elab.async false
set_option linter.all false
set_option maxRecDepth 100000
set_option maxHeartbeats 4000000
/-! piles -/
namespace K95
open PySem Mir SX L2
local macro_rules | `(tactic| walk_at "wp") => `(tactic| simp -dsimp (disch := first | omega | assumption | (simp only [List.length_cons, List.length_nil, List.length_append, List.length_map]; omega)) only [*, ↓wp_eAnd, ↓wp_eOr, ↓wp_ch, ↓wp_c, ↓wp_var, ↓wp_e1, ↓wp_e2, ↓wp_eN, ↓wp_cons, ↓wp_nil, ↓wp_call, ↓wp_mt, ↓wp_sl, ↓wp_oNone, ↓wp_oSome, ↓wp_tB1, ↓wp_tNot, ↓wp_tAnd, ↓wp_tOr, ↓wp_eIf, ↓wp_told, ↓wp_next, ↓wp_raise, ↓wp_seq, ↓wp_expr, ↓wp_set, ↓wp_setO, ↓wp_setI, ↓wp_retS, ↓wp_retN, ↓wp_break, ↓wp_cont, ↓wp_if, ↓wp_app, ↓wp_asg, ↓wp_fn, ↓wp_for, ↓wp_iLst, ↓wp_iTpl, ↓wp_iN, ↓wp_iStr, ↓wp_tYes, ↓wp_ret,
  ↓wp_fld, ↓wp_fldSet, ↓wp_meth, ↓wp_new, ↓wp_sto, ↓wp_disp, ↓wp_e2S, ↓wp_eNS, ↓wp_setS, onN_non, ↓wp_ok, ↓wp_exc, ↓wp_e1S, ↓wp_par2, ↓wp_par3, on2_go, on3_go, ↓wp_get2, ↓wp_pop1, ↓wp_appS, ↓wp_eLock, ↓wp_sLock, ↓wp_end, ↓wp_asgL, ↓wp_ext, ↓wp_eOrS, onTx_non, onTx_nil, ↓wp_free, ↓wp_iKeysD,
  onO_some, onB_bl, onI_int, onL_lst, onT_tup, onS_str, onE_go, onC_t,
  List.map_cons, List.map_nil, List.length_cons, List.length_nil, List.cons_append, List.nil_append, List.replicate, List.getElem?_cons_zero, List.getElem?_cons_succ, List.set_cons_zero, List.set_cons_succ, wipeD, decide_true, decide_false,
  Option.some.injEq, true_and, and_true, if_true, ite_true, if_false, Bool.false_eq_true, reduceIte, ite_false, Bool.not_true, Bool.not_false, Nat.reduceAdd, Nat.reduceSub, Nat.zero_add, Nat.reduceEqDiff])

def p1E : ED := (eLc0 (iLst (eVar 3)) (gNm 7) (tB1 (e2S (inS2 false) (eVar 7) (eVar 6))) (eVar 7) [7])
def p2E : ED := (eLc0 (iLst (eVar 3)) (gNm 7) (tB1 (e2S (inS2 true) (eVar 7) (eVar 6))) (eVar 7) [7])
def pilB : SD := (sSeq (sSet 6 (eCall M_asked (aCons (eVar 0) (aCons (eVar 1) (aCons (eVar 5) aNil)))))
    (sSeq (sApp 4 p1E)
    (sSet 3 p2E)))
theorem b_pilE : b_piles = (sSeq (sSet 3 (eMeth "Shelf" "numbers" M_Shelf_numbers (eVar 0) (aCons (eVar 1) aNil)))
    (sSeq (sExpr (eCall M_need_queries (aCons (eVar 2) aNil)))
    (sSeq (sSetO 4 (eN mkL aNil))
    (sSeq (sFor (iLst (eVar 2)) (gNm 5) pilB)
    (sRet (e2 addDT (eVar 4) (eN mkL (aCons (eVar 3) aNil)))))))) := rfl
def ilD (l : List Int) : D := .lst (l.map D.int)
def pilF (A : D → List Int) : List Int → List D → List (List Int)
  | _, [] => []
  | left, q :: qs => left.filter (fun x => decide (x ∈ A q)) :: pilF A (left.filter fun x => !decide (x ∈ A q)) qs
def pilL (A : D → List Int) : List Int → List D → List Int
  | left, [] => left
  | left, q :: qs => pilL A (left.filter fun x => !decide (x ∈ A q)) qs
theorem pilF_snoc (A : D → List Int) (q : D) : ∀ (qs : List D) (left : List Int), pilF A left (qs ++ [q]) = pilF A left qs ++ [(pilL A left qs).filter fun x => decide (x ∈ A q)] ∧ pilL A left (qs ++ [q]) = (pilL A left qs).filter fun x => !decide (x ∈ A q)
  | [], left => ⟨rfl, rfl⟩
  | r :: qs, left => by
    obtain ⟨h1, h2⟩ := pilF_snoc A q qs (left.filter fun x => !decide (x ∈ A r))
    exact ⟨by show _ :: pilF _ _ (qs ++ [q]) = _ :: (pilF _ _ qs ++ _); rw [h1]; rfl, h2⟩
theorem pilL_len (A : D → List Int) : ∀ (qs : List D) (left : List Int), (pilL A left qs).length ≤ left.length
  | [], left => Nat.le_refl _
  | r :: qs, left => Nat.le_trans (pilL_len A qs _) (List.length_filter_le _ _)
theorem pilF_len (A : D → List Int) : ∀ (qs : List D) (left : List Int), (pilF A left qs).length = qs.length
  | [], left => rfl
  | r :: qs, left => by show (pilF A _ qs).length + 1 = _; rw [pilF_len A qs]; rfl
section
variable {s : Sto}
theorem v_p1E {left am : List Int} (h : left.length < 100000) {x0 x1 x2 x4 x5 x7 : Option D} : p1E [x0, x1, x2, some (ilD left), x4, x5, some (ilD am), x7] s = .ok (ilD (left.filter fun x => decide (x ∈ am))) s := by
  refine lc0_map (l := left) (i := D.int) (fun x => decide (x ∈ am)) D.int (ok_of ?_) (by omega) fun x hx => ⟨[x0, x1, x2, some (ilD left), x4, x5, some (ilD am), some (.int x)], rfl, ok_of ?_, fun _ => rfl⟩
  · unfold ilD
    generalize left.map D.int = ll
    walk_at "wp"
  · have e := inI s x am
    unfold ilD
    generalize left.map D.int = ll
    generalize am.map D.int = aa at *
    generalize decide (x ∈ am) = bb at *
    walk_at "wp"
theorem v_p2E {left am : List Int} (h : left.length < 100000) {x0 x1 x2 x4 x5 x7 : Option D} : p2E [x0, x1, x2, some (ilD left), x4, x5, some (ilD am), x7] s = .ok (ilD (left.filter fun x => !decide (x ∈ am))) s := by
  refine lc0_map (l := left) (i := D.int) (fun x => !decide (x ∈ am)) D.int (ok_of ?_) (by omega) fun x hx => ⟨[x0, x1, x2, some (ilD left), x4, x5, some (ilD am), some (.int x)], rfl, ok_of ?_, fun _ => rfl⟩
  · unfold ilD
    generalize left.map D.int = ll
    walk_at "wp"
  · have e := notInI s x am
    unfold ilD
    generalize left.map D.int = ll
    generalize am.map D.int = aa at *
    generalize (!decide (x ∈ am)) = bb at *
    walk_at "wp"
theorem v_pilB {a : Nat} {name : Str} {q : D} {left am : List Int} {fs : List D} {s1 : Sto} (hl : left.length < 100000) (hf : fs.length < 100000) (e : M_asked [.obj a, .str name, q] s = .ok (ilD am) s1) {x2 x6 x7 : Option D} (Q : Fl → Sto → Prop) (X : XP) :
    wp (pilB [some (.obj a), some (.str name), x2, some (ilD left), some (.lst fs), some q, x6, x7] s) Q X = Q (.nx [some (.obj a), some (.str name), x2, some (ilD (left.filter fun x => !decide (x ∈ am))), some (.lst (fs ++ [ilD (left.filter fun x => decide (x ∈ am))])), some q, some (ilD am), x7]) s1 := by
  have e := wp_of e
  have e1 := fun {x4 x7 : Option D} => wp_of (v_p1E (s := s1) (left := left) (am := am) hl (x0 := some (.obj a)) (x1 := some (.str name)) (x2 := x2) (x4 := x4) (x5 := some q) (x7 := x7))
  have e2 := fun {x4 x7 : Option D} => wp_of (v_p2E (s := s1) (left := left) (am := am) hl (x0 := some (.obj a)) (x1 := some (.str name)) (x2 := x2) (x4 := x4) (x5 := some q) (x7 := x7))
  have sm : small (fs.length + 1) = true := small_of (by omega)
  unfold pilB
  generalize ilD (left.filter fun x => decide (x ∈ am)) = d1 at *
  generalize ilD (left.filter fun x => !decide (x ∈ am)) = d2 at *
  generalize ilD left = d3 at *
  generalize ilD am = d4 at *
  clear hl hf
  walk_at "wp"
theorem v_piles {a : Nat} {name : Str} {ks : List Int} {qs : List D} {A : D → List Int} (hm : isIns "Shelf" "numbers" s (.obj a) = true) (hk : M_Shelf_numbers [.obj a, .str name] s = .ok (ilD ks) s) (hl : ks.length < 100000) (hn : ∃ l, M_need_queries [.lst qs] s = .ok .non (s ++ l)) (hq : qs.length ≤ 12) (hA : ∀ q ∈ qs, ∀ l, ∃ l', M_asked [.obj a, .str name, q] (s ++ l) = .ok (ilD (A q)) (s ++ l ++ l')) :
    ∃ l, M_piles [.obj a, .str name, .lst qs] s = .ok (.lst ((pilF A ks qs ++ [pilL A ks qs]).map ilD)) (s ++ l) := by
  obtain ⟨l0, hn⟩ := hn
  have e1 := wp_of hk
  have e2 := wp_of hn
  have e3 : mkL [] = some (.lst []) := rfl
  have e4 : isCt (.lst []) = true := rfl
  have key : wp (M_piles [.obj a, .str name, .lst qs] s) (fun d s' => d = .lst ((pilF A ks qs ++ [pilL A ks qs]).map ilD) ∧ ∃ l, s' = s ++ l) (fun _ _ => False) := by
    unfold M_piles
    rw [b_pilE]
    clear hk hn
    generalize hL : ilD ks = kl at *
    generalize hS : s ++ l0 = s1 at *
    walk_at "wp"
    refine wp_forGo _ (fun i τ s' => (∃ l, s' = s1 ++ l) ∧ ∃ x5 x6 x7, τ = [some (.obj a), some (.str name), some (.lst qs), some (ilD (pilL A ks (qs.take i))), some (.lst ((pilF A ks (qs.take i)).map ilD)), x5, x6, x7]) _ _ ⟨⟨[], by simp⟩, none, none, none, by rw [← hL]; rfl⟩ ?_ ?_
    · rintro i q τ s' hd ⟨⟨l, rfl⟩, x5, x6, x7, rfl⟩
      refine ⟨_, rfl, ?_⟩
      obtain ⟨l', e⟩ := hA q (List.mem_of_getElem? hd) (l0 ++ l)
      rw [← List.append_assoc, hS] at e
      have h1 : (pilL A ks (qs.take i)).length < 100000 := Nat.lt_of_le_of_lt (pilL_len A _ _) hl
      have h2 : ((pilF A ks (qs.take i)).map ilD).length < 100000 := by
        rw [List.length_map, pilF_len]
        have := List.length_take_le i qs
        have := List.length_take_le' i qs
        omega
      have e5 : qs.take (i + 1) = qs.take i ++ [q] := by rw [List.take_succ, hd]; rfl
      have g1 : pilL A ks (qs.take (i + 1)) = (pilL A ks (qs.take i)).filter fun x => !decide (x ∈ A q) := by rw [e5, (pilF_snoc A q _ _).2]
      have g2 : (pilF A ks (qs.take (i + 1))).map ilD = (pilF A ks (qs.take i)).map ilD ++ [ilD ((pilL A ks (qs.take i)).filter fun x => decide (x ∈ A q))] := by rw [e5, (pilF_snoc A q _ _).1, List.map_append]; rfl
      exact (v_pilB h1 h2 e _ _).mpr ⟨⟨l ++ l', by rw [List.append_assoc]⟩, some q, some (ilD (A q)), x7, by rw [g1, g2]⟩
    · rintro τ s' ⟨⟨l, rfl⟩, x5, x6, x7, rfl⟩
      rw [List.take_length]
      have m1 : mkL [ilD (pilL A ks qs)] = some (.lst [ilD (pilL A ks qs)]) := rfl
      have a1 := add_lst1 ((pilF A ks qs).map ilD) (ilD (pilL A ks qs)) (by rw [List.length_map, pilF_len]; omega)
      clear hA hl hq e1 e2 hL
      rw [List.map_append]
      show wp _ _ _
      have fin : ∃ l2, s1 ++ l = s ++ l2 := ⟨l0 ++ l, by rw [← hS, List.append_assoc]⟩
      rw [show ([pilL A ks qs].map ilD) = [ilD (pilL A ks qs)] from rfl]
      generalize ilD (pilL A ks qs) = d1 at *
      generalize (pilF A ks qs).map ilD = d2 at *
      walk_at "wp"
  cases e : M_piles [.obj a, .str name, .lst qs] s with
  | ok d s' =>
    rw [e] at key
    obtain ⟨rfl, l, rfl⟩ := key
    exact ⟨l, rfl⟩
  | exc c s' => rw [e] at key; exact key.elim
  | no => rw [e] at key; exact key.elim
end
end K95

set_option Elab.async false
set_option linter.all false
set_option maxRecDepth 100000
set_option maxHeartbeats 4000000
/-! asked of all; twelve queries -/
namespace K95
open PySem Mir SX L2
local macro_rules | `(tactic| walk_at "wp") => `(tactic| simp -dsimp (disch := first | omega | assumption | (simp only [List.length_cons, List.length_nil, List.length_append, List.length_map]; omega)) only [*, ↓wp_eAnd, ↓wp_eOr, ↓wp_ch, ↓wp_c, ↓wp_var, ↓wp_e1, ↓wp_e2, ↓wp_eN, ↓wp_cons, ↓wp_nil, ↓wp_call, ↓wp_mt, ↓wp_sl, ↓wp_oNone, ↓wp_oSome, ↓wp_tB1, ↓wp_tNot, ↓wp_tAnd, ↓wp_tOr, ↓wp_eIf, ↓wp_told, ↓wp_next, ↓wp_raise, ↓wp_seq, ↓wp_expr, ↓wp_set, ↓wp_setO, ↓wp_setI, ↓wp_retS, ↓wp_retN, ↓wp_break, ↓wp_cont, ↓wp_if, ↓wp_app, ↓wp_asg, ↓wp_fn, ↓wp_for, ↓wp_iLst, ↓wp_iTpl, ↓wp_iN, ↓wp_iStr, ↓wp_tYes, ↓wp_ret,
  ↓wp_fld, ↓wp_fldSet, ↓wp_meth, ↓wp_new, ↓wp_sto, ↓wp_disp, ↓wp_e2S, ↓wp_eNS, ↓wp_setS, onN_non, ↓wp_ok, ↓wp_exc, ↓wp_e1S, ↓wp_par2, ↓wp_par3, on2_go, on3_go, ↓wp_get2, ↓wp_pop1, ↓wp_appS, ↓wp_eLock, ↓wp_sLock, ↓wp_end, ↓wp_asgL, ↓wp_ext, ↓wp_eOrS, onTx_non, onTx_nil, ↓wp_free, ↓wp_iKeysD,
  onO_some, onB_bl, onI_int, onL_lst, onT_tup, onS_str, onE_go, onC_t,
  List.map_cons, List.map_nil, List.length_cons, List.length_nil, List.cons_append, List.nil_append, List.replicate, List.getElem?_cons_zero, List.getElem?_cons_succ, List.set_cons_zero, List.set_cons_succ, wipeD, decide_true, decide_false,
  Option.some.injEq, true_and, and_true, if_true, ite_true, if_false, Bool.false_eq_true, reduceIte, ite_false, Bool.not_true, Bool.not_false, Nat.reduceAdd, Nat.reduceSub, Nat.zero_add, Nat.reduceEqDiff])

section
variable {s : Sto} {a kd n : Nat} {B : Bx} {r : Row}
def fact (r : Row) (last : Int) : Ob := .ins "Facts" [("letter", r.l), ("marks", .tup (mD r.m)), ("number", .int r.no), ("last", .int last), ("changed", .int r.h)]
theorem v_fact (s : Sto) (r : Row) (last : Int) : ∀ (Q : D → Sto → Prop) (X : XP), wp (M_Facts___init__ [.obj s.length, r.l, .tup (mD r.m), .int r.no, .int last, .int r.h] (s ++ [.ins "Facts" []])) Q X = Q .non (s ++ [fact r last]) := fun Q X => by
  have e1 : setFld ["Entry", "Facts"] "letter" r.l (s ++ [.ins "Facts" []]) (.obj s.length) = some (s ++ [.ins "Facts" [("letter", r.l)]]) := by
    rw [setFld_at sto_new (by simp) (by decide), sto_setNew]; rfl
  have e2 : setFld ["Entry", "Facts"] "marks" (.tup (mD r.m)) (s ++ [.ins "Facts" [("letter", r.l)]]) (.obj s.length) = some (s ++ [.ins "Facts" [("letter", r.l), ("marks", .tup (mD r.m))]]) := by
    rw [setFld_at sto_new (by simp) (by show 1 < 1000; decide), sto_setNew]; rfl
  have e3 : setFld ["Facts"] "number" (.int r.no) (s ++ [.ins "Facts" [("letter", r.l), ("marks", .tup (mD r.m))]]) (.obj s.length) = some (s ++ [.ins "Facts" [("letter", r.l), ("marks", .tup (mD r.m)), ("number", .int r.no)]]) := by
    rw [setFld_at sto_new (by simp) (by show 2 < 1000; decide), sto_setNew]; rfl
  have e4 : setFld ["Facts"] "last" (.int last) (s ++ [.ins "Facts" [("letter", r.l), ("marks", .tup (mD r.m)), ("number", .int r.no)]]) (.obj s.length) = some (s ++ [.ins "Facts" [("letter", r.l), ("marks", .tup (mD r.m)), ("number", .int r.no), ("last", .int last)]]) := by
    rw [setFld_at sto_new (by simp) (by show 3 < 1000; decide), sto_setNew]; rfl
  have e5 : setFld ["Entry", "Facts"] "changed" (.int r.h) (s ++ [.ins "Facts" [("letter", r.l), ("marks", .tup (mD r.m)), ("number", .int r.no), ("last", .int last)]]) (.obj s.length) = some (s ++ [fact r last]) := by
    rw [setFld_at sto_new (by simp) (by show 4 < 1000; decide), sto_setNew]; rfl
  unfold M_Facts___init__ b_Facts___init__
  generalize s ++ [fact r last] = s9 at *
  generalize r.l = fl at *
  walk_at "wp"
def askB : SD := (sSeq (sSet 7 (e2S ixS (eFld ["Box"] "entries" (eVar 3)) (eVar 6)))
    (sIf (tB1 (eCall (M_is_so 10) (aCons (eVar 2) (aCons (eNew "Facts" M_Facts___init__ (aCons (eFld ["Entry", "Facts"] "letter" (eVar 7)) (aCons (eFld ["Entry", "Facts"] "marks" (eVar 7)) (aCons (eVar 6) (aCons (eVar 4) (aCons (eFld ["Entry", "Facts"] "changed" (eVar 7)) aNil)))))) aNil)))) (sApp 5 (eVar 6)) sNext))
theorem b_askE : b_asked = (sSeq (sSet 3 (eMeth "Shelf" "box" M_Shelf_box (eVar 0) (aCons (eVar 1) aNil)))
    (sSeq (sExpr (eCall M_need_query (aCons (eVar 2) aNil)))
    (sSeq (sSet 4 (e2 maxDf (eNS listS (aCons (eFld ["Box"] "entries" (eVar 3)) aNil)) (eC (.int 0))))
    (sSeq (sSetO 5 (eN mkL aNil))
    (sSeq (sFor (iLst (eNS sortS3 (aCons (eFld ["Box"] "entries" (eVar 3)) aNil))) (gNm 6) askB)
    (sRet (eVar 5))))))) := rfl
theorem list_keys {n : Nat} (h : s[n]? = some (.dct B.enK)) : listS s [.obj n] = some (.lst (B.keys.map D.int)) := by
  have hq : seqA s (.obj n) = none := by
    show (match s[n]? with | some (.lst xs) => some xs | _ => none) = _
    rw [h]
  show (match seqA s (.obj n) with | some ds => some (D.lst ds) | none => (dctAt s (.obj n)).map fun kvs => D.lst (List.map (fun p : Key × D => kD p.1) kvs)) = _
  rw [hq, dct_at h]
  show some (D.lst (B.enK.map fun p => kD p.1)) = _
  unfold Bx.enK Bx.keys
  rw [List.map_map, List.map_map]
  rfl
def ALL : D := .tup [.str "all"]
theorem v_askB (p : PB s B) (o : B.Ok) (hr : r ∈ B.es) {last : Int} {told : List D} (hl : told.length < 100000) {x0 x1 x7 : Option D} (Q : Fl → Sto → Prop) (X : XP) : wp (askB [x0, x1, some ALL, some (.obj B.bx), some (.int last), some (.lst told), some (.int r.no), x7] s) Q X = Q (.nx [x0, x1, some ALL, some (.obj B.bx), some (.int last), some (.lst (told ++ [.int r.no])), some (.int r.no), some (.obj r.at_)]) (s ++ [fact r last]) := by
  have f1 := p.entries
  have f2 := p.row o hr
  have f3 := ent_letter (p.es r hr)
  have f4 := ent_marks (p.es r hr)
  have f5 := ent_changed (p.es r hr)
  have k1 := v_fact s r last
  have e : ∀ (f9 : Nat) (s : Sto) (Q : D → Sto → Prop) (X : XP), wp (M_is_so 10 [ALL, .obj f9] s) Q X = Q (.bl true) s := fun f9 s => wp_of (by kernel_rfl)
  have sm : small (told.length + 1) = true := small_of (by omega)
  clear p o hr hl
  unfold askB
  generalize s ++ [fact r last] = s1 at *
  generalize r.l = fl at *
  generalize ALL = aa at *
  generalize M_is_so 10 = MM at *
  walk_at "wp"
theorem ints_of (ks : List Int) : intsOf (ks.map D.int) = some ks := by
  induction ks with
  | nil => rfl
  | cons k ks ih =>
    show (intsOf (ks.map D.int)).map (k :: ·) = _
    rw [ih]
    rfl
theorem maxDf_ex (ks : List Int) : ∃ z, maxDf (.lst (ks.map D.int)) (.int 0) = some (.int z) := by
  cases ks with
  | nil => exact ⟨0, rfl⟩
  | cons n ns =>
    refine ⟨mxI n ns, ?_⟩
    show (match intsOf ((n :: ns).map D.int) with | some [] => some (D.int 0) | some (n :: ns) => some (D.int (mxI n ns)) | none => none) = _
    rw [ints_of]
theorem v_asked (h : Zt s a kd B n) : ∃ l, M_asked [.obj a, .str "in", ALL] s = .ok (ilD B.keys) (s ++ l) := by
  have e1 := wp_of (v_box h.sk h.hb)
  have e2 := h.sk.meth (m := "box")
  have e3 : ∀ (Q : D → Sto → Prop) (X : XP), wp (M_need_query [ALL] s) Q X = Q .non s := wp_of (by kernel_rfl)
  have e4 := h.pb.entries
  have e5 := list_keys h.pb.en
  obtain ⟨la, e6⟩ := maxDf_ex B.keys
  have e7 := h.pb.sorted h.ok
  have e8 : mkL [] = some (.lst []) := rfl
  have e9 : isCt (.lst []) = true := rfl
  have few := h.ok.few
  have key : wp (M_asked [.obj a, .str "in", ALL] s) (fun d s' => d = ilD B.keys ∧ ∃ l, s' = s ++ l) (fun _ _ => False) := by
    unfold M_asked
    rw [b_askE]
    have hp := h.pb
    have ho := h.ok
    clear h
    unfold ilD
    generalize hK : B.keys.map D.int = ks at *
    generalize hA : ALL = aa at *
    walk_at "wp"
    refine wp_forGo _ (fun i τ s' => (∃ l, s' = s ++ l) ∧ ∃ x6 x7, τ = [some (.obj a), some (.str "in"), some ALL, some (.obj B.bx), some (.int la), some (.lst (ks.take i)), x6, x7]) _ _ ⟨⟨[], by simp⟩, none, none, by rw [hA]; rfl⟩ ?_ ?_
    · rintro i d τ s' hd' ⟨⟨l, rfl⟩, x6, x7, rfl⟩
      have hd0 := hd'
      rw [← hK] at hd'
      have hi : i < B.es.length := by
        have := (List.getElem?_eq_some_iff.mp hd').1
        simpa [Bx.keys] using this
      have hd' : d = .int (B.es[i]).no := by
        simp [Bx.keys, List.getElem?_eq_getElem hi] at hd'
        exact hd'.symm
      subst hd'
      refine ⟨_, rfl, ?_⟩
      have hm : B.es[i] ∈ B.es := List.getElem_mem hi
      have p2 : PB (s ++ l) B := hp.fr (F := []) Fr.app (by simp)
      have hkl : ks.length = B.es.length := by rw [← hK]; simp [Bx.keys]
      have hlen : (ks.take i).length < 100000 := by
        have := List.length_take_le' i ks
        omega
      exact (v_askB p2 ho hm hlen _ _).mpr ⟨⟨l ++ [fact B.es[i] la], by rw [List.append_assoc]⟩, some (.int (B.es[i]).no), some (.obj (B.es[i]).at_), by rw [List.take_succ, hd0]; rfl⟩
    · rintro τ s' ⟨⟨l, rfl⟩, x6, x7, rfl⟩
      rw [List.take_length]
      clear hK hA e1 e2 e3 e4 e5 e6 e7
      have fin : ∃ l2, s ++ l = s ++ l2 := ⟨l, rfl⟩
      walk_at "wp"
  cases e : M_asked [.obj a, .str "in", ALL] s with
  | ok d s' =>
    rw [e] at key
    obtain ⟨rfl, l, rfl⟩ := key
    exact ⟨l, rfl⟩
  | exc c s' => rw [e] at key; exact key.elim
  | no => rw [e] at key; exact key.elim
theorem z_piles (h : Zt s a kd B n) : ∃ l, M_piles [.obj a, .str "in", .lst (List.replicate 12 ALL)] s = .ok (.lst (ilD B.keys :: List.replicate 12 (.lst []))) (s ++ l) := by
  have few := h.ok.few
  have ln : B.keys.length = B.es.length := by simp [Bx.keys]
  obtain ⟨l, e⟩ := v_piles (A := fun _ => B.keys) (qs := List.replicate 12 ALL) (h.sk.meth (m := "numbers")) (v_numbers h.sk h.hb h.pb h.ok) (by omega) ⟨[], by rw [List.append_nil]; kernel_rfl⟩ (by simp) fun q hq l => by
    rw [List.eq_of_mem_replicate hq]
    exact v_asked (h.app l)
  refine ⟨l, ?_⟩
  rw [e]
  have f1 : B.keys.filter (fun x => decide (x ∈ B.keys)) = B.keys := List.filter_eq_self.mpr fun x hx => decide_eq_true hx
  have f2 : B.keys.filter (fun x => !decide (x ∈ B.keys)) = [] := List.filter_eq_nil_iff.mpr fun x hx => by simp [hx]
  have e2 : pilF (fun _ => B.keys) B.keys (List.replicate 12 ALL) = B.keys :: List.replicate 11 [] ∧ pilL (fun _ => B.keys) B.keys (List.replicate 12 ALL) = [] := by
    have g : ∀ k, pilF (fun _ => B.keys) [] (List.replicate k ALL) = List.replicate k [] ∧ pilL (fun _ => B.keys) [] (List.replicate k ALL) = [] := fun k => by
      induction k with
      | zero => exact ⟨rfl, rfl⟩
      | succ k ih => exact ⟨by show [] :: pilF _ [] (List.replicate k ALL) = _; rw [ih.1]; rfl, ih.2⟩
    refine ⟨?_, ?_⟩
    · show B.keys.filter _ :: pilF _ (B.keys.filter _) (List.replicate 11 ALL) = _
      rw [f1, f2, (g 11).1]
    · show pilL (fun _ => B.keys) (B.keys.filter fun x => !decide (x ∈ B.keys)) (List.replicate 11 ALL) = _
      rw [f2, (g 11).2]
  rw [e2.1, e2.2]
  rfl
end
end K95

set_option Elab.async false
set_option linter.all false
set_option maxRecDepth 100000
set_option maxHeartbeats 4000000
/-! ordered by keys -/
namespace K95
open PySem Mir SX L2
local macro_rules | `(tactic| walk_at "wp") => `(tactic| simp -dsimp (disch := first | omega | assumption | (simp only [List.length_cons, List.length_nil, List.length_append, List.length_map]; omega)) only [*, ↓wp_eAnd, ↓wp_eOr, ↓wp_ch, ↓wp_c, ↓wp_var, ↓wp_e1, ↓wp_e2, ↓wp_eN, ↓wp_cons, ↓wp_nil, ↓wp_call, ↓wp_mt, ↓wp_sl, ↓wp_oNone, ↓wp_oSome, ↓wp_tB1, ↓wp_tNot, ↓wp_tAnd, ↓wp_tOr, ↓wp_eIf, ↓wp_told, ↓wp_next, ↓wp_raise, ↓wp_seq, ↓wp_expr, ↓wp_set, ↓wp_setO, ↓wp_setI, ↓wp_retS, ↓wp_retN, ↓wp_break, ↓wp_cont, ↓wp_if, ↓wp_app, ↓wp_asg, ↓wp_fn, ↓wp_for, ↓wp_iLst, ↓wp_iTpl, ↓wp_iN, ↓wp_iStr, ↓wp_tYes, ↓wp_ret,
  ↓wp_fld, ↓wp_fldSet, ↓wp_meth, ↓wp_new, ↓wp_sto, ↓wp_disp, ↓wp_e2S, ↓wp_eNS, ↓wp_setS, onN_non, ↓wp_ok, ↓wp_exc, ↓wp_e1S, ↓wp_par2, ↓wp_par3, on2_go, on3_go, ↓wp_get2, ↓wp_pop1, ↓wp_appS, ↓wp_eLock, ↓wp_sLock, ↓wp_end, ↓wp_asgL, ↓wp_ext, ↓wp_eOrS, onTx_non, onTx_nil, ↓wp_free, ↓wp_iKeysD,
  onO_some, onB_bl, onI_int, onL_lst, onT_tup, onS_str, onE_go, onC_t,
  List.map_cons, List.map_nil, List.length_cons, List.length_nil, List.cons_append, List.nil_append, List.replicate, List.getElem?_cons_zero, List.getElem?_cons_succ, List.set_cons_zero, List.set_cons_succ, wipeD, decide_true, decide_false,
  Option.some.injEq, true_and, and_true, if_true, ite_true, if_false, Bool.false_eq_true, reduceIte, ite_false, Bool.not_true, Bool.not_false, Nat.reduceAdd, Nat.reduceSub, Nat.zero_add, Nat.reduceEqDiff])

def ordT : TD := (tOrD (tNotD (tB1 (e1 (isiD "list") (eVar 2)))) (tOrD (tB1 (e2 gtI (eNS lenS (aCons (eVar 2) aNil)) (eC (.int 4)))) (tNotD (tB1 (eN allD (aCons (eLc0 (iLst (eVar 2)) (gNm 4) tYesD (eCall M_is_key (aCons (eVar 4) aNil)) [4]) aNil))))))
theorem b_ordE : b_ordered = (sSeq (sSetO 3 (eMeth "Shelf" "numbers" M_Shelf_numbers (eVar 0) (aCons (eVar 1) aNil)))
    (sSeq (sIf ordT (sRaise "BadQuery") sNext)
    (sSeq (sFor (iLst (e1S revS (eVar 2))) (gNm 4) ordB)
    (sRet (eVar 3))))) := rfl
def BADK : List D := [.non, .tup [], .tup [.str "marks"], .tup [.str "marks", .int 1], .tup [.str "marks", .non], .tup [.str "head", .bl true], .tup [.str "head", .str "A", .bl true]]
def BADK2 : List D := [.tup [.str "head", .str "", .bl false], .tup [.str "long", .str "a", .bl true], .lst [.str "marks", .bl true], .tup [.str "body", .bl true], .tup [.str "head", .str "x", .int 0]]
def mk1 (k : D) : D := .lst [.tup [.str "long", .bl true], k]
def BADL : List D := [.non, .tup [.tup [.str "marks", .bl true]], .lst [.tup [.str "marks", .bl true], .tup [.str "marks", .bl true], .tup [.str "marks", .bl true], .tup [.str "marks", .bl true], .tup [.str "marks", .bl true]], .str "marks"]
def BADO : List D := (BADK ++ BADK2).map mk1 ++ BADL
def K0 : D := .tup [.str "head", .str "abcdefghijkl", .bl true]
section
variable {s : Sto} {a kd n : Nat} {B : Bx} {r : Row}
theorem bad_ot (s : Sto) (x0 x1 x3 : Option D) : ∀ q ∈ BADO, ordT [x0, x1, some q, x3, none, none, none, none, none] s = .ok true s := fun q hq => by
  have k : BADO.map (fun q => ordT [x0, x1, some q, x3, none, none, none, none, none] s) = BADO.map (fun _ => .ok true s) := by kernel_rfl
  exact List.map_inj_left.mp k q hq
theorem good_ot (s : Sto) (x0 x1 x3 : Option D) : ordT [x0, x1, some (.lst (List.replicate 4 K0)), x3, none, none, none, none, none] s = .ok false s := by kernel_rfl
theorem isCt_l (l : List D) : isCt (.lst l) = true := rfl
theorem bad_ord (h : Zt s a kd B n) {q : D} (hq : q ∈ BADO) : M_ordered [.obj a, .str "in", q] s = .exc "BadQuery" s := by
  have e1 := wp_of (v_numbers h.sk h.hb h.pb h.ok)
  have e2 := h.sk.meth (m := "numbers")
  have e3 := fun x0 x1 x3 => wp_of (bad_ot s x0 x1 x3 q hq)
  have e4 := isCt_l
  refine exc_of ?_
  unfold M_ordered
  rw [b_ordE]
  clear h hq
  generalize B.keys.map D.int = ks at *
  walk_at "wp"
theorem hd_LET (s : Sto) : ∀ l ∈ LET, M_head [l, .str "abcdefghijkl"] s = .ok .non s := fun l hl => by
  have k : LET.map (fun l => M_head [l, .str "abcdefghijkl"] s) = LET.map (fun _ => .ok .non s) := by kernel_rfl
  exact List.map_inj_left.mp k l hl
theorem v_worth (h : Zt s a kd B n) (hr : r ∈ B.es) : M_worth [.obj a, .str "in", .int r.no, K0] s = .ok (.str "") s := by
  have e1 := wp_of (v_letter_at h.sk h.hb h.pb h.ok hr)
  have e2 := h.sk.meth (m := "letter_at")
  have e3 := wp_of (hd_LET s r.l (h.ls r hr))
  have k0 : ixS s K0 (.int 0) = some (.str "head") := by kernel_rfl
  have k1 : ixS s K0 (.int 1) = some (.str "abcdefghijkl") := by kernel_rfl
  have q1 : eqD (.str "head") (.str "marks") = some (.bl false) := by kernel_rfl
  have q2 : eqD (.str "head") (.str "long") = some (.bl false) := by kernel_rfl
  refine ok_of ?_
  unfold M_worth b_worth
  clear h hr
  generalize K0 = kk at *
  generalize r.l = ll at *
  walk_at "wp"
def E0 : Key := Sum.inr ""
theorem sort_w (fs : List Int) : ∃ ks, sortK (dst (fs.map fun _ => E0)) = some ks ∧ grp (if true then ks.reverse else ks) (fun _ => E0) fs = fs := by
  cases fs with
  | nil => exact ⟨[], rfl, rfl⟩
  | cons x fs =>
    have e : dst ((x :: fs).map fun _ => E0) = [E0] := by
      have g : ∀ l : List Int, l.foldl (fun acc _ => if inK E0 acc = true then acc else acc ++ [E0]) [E0] = [E0] := fun l => by
        induction l with
        | nil => rfl
        | cons y l ih =>
          rw [List.foldl_cons, if_pos (by simp [inK])]
          exact ih
      unfold dst
      rw [List.foldl_map, List.foldl_cons]
      exact g fs
    rw [e]
    refine ⟨[E0], by kernel_rfl, ?_⟩
    show grp [E0] (fun _ => E0) (x :: fs) = x :: fs
    unfold grp
    simp
theorem z_ordered (h : Zt s a kd B n) : ∃ l, M_ordered [.obj a, .str "in", .lst (List.replicate 4 K0)] s = .ok (ilD B.keys) (s ++ l) := by
  have e1 := wp_of (v_numbers h.sk h.hb h.pb h.ok)
  have e2 := h.sk.meth (m := "numbers")
  have e3 := fun x0 x1 x3 => wp_of (good_ot s x0 x1 x3)
  have e4 := isCt_l
  have e5 : ∀ s, revS s (.lst (List.replicate 4 K0)) = some (.lst (List.replicate 4 K0)) := fun s => by kernel_rfl
  have few := h.ok.few
  have ln : B.keys.length = B.es.length := by simp [Bx.keys]
  have key : wp (M_ordered [.obj a, .str "in", .lst (List.replicate 4 K0)] s) (fun d s' => d = ilD B.keys ∧ ∃ l, s' = s ++ l) (fun _ _ => False) := by
    unfold M_ordered
    rw [b_ordE]
    generalize hR : List.replicate 4 K0 = rr at *
    unfold ilD
    generalize hK : B.keys.map D.int = ks at *
    obtain ⟨kk, s1, s2⟩ := sort_w B.keys
    walk_at "wp"
    refine wp_forGo _ (fun i τ s' => (∃ l, s' = s ++ l) ∧ ∃ x4 x5 x6 x7 x8, τ = [some (.obj a), some (.str "in"), some (.lst rr), some (.lst ks), x4, x5, x6, x7, x8]) _ _ ⟨⟨[], by simp⟩, none, none, none, none, none, rfl⟩ ?_ ?_
    · rintro i d τ s' hd ⟨⟨l, rfl⟩, x4, x5, x6, x7, x8, rfl⟩
      rw [← hR] at hd
      have hd : d = K0 := List.eq_of_mem_replicate (List.mem_of_getElem? hd)
      subst hd
      refine ⟨_, rfl, ?_⟩
      rw [← hK]
      refine v_ordB (s := s ++ l) (a := a) (name := "in") (key := K0) (fs := B.keys) (w := fun _ => E0) (rv := true) (by omega) (fun x hx l' => by
        obtain ⟨r, hr, rfl⟩ := List.mem_map.mp hx
        exact v_worth ((h.app l).app l') hr) s1 (fun s => by kernel_rfl) fun y5 y6 y7 y8 l2 => ?_
      rw [s2]
      exact ⟨⟨l ++ l2, by rw [List.append_assoc]⟩, _, _, _, _, _, rfl⟩
    · rintro τ s' ⟨⟨l, rfl⟩, x4, x5, x6, x7, x8, rfl⟩
      clear s1 s2 h e1 e2 e3 e4 e5
      have fin : ∃ l2, s ++ l = s ++ l2 := ⟨l, rfl⟩
      walk_at "wp"
  cases e : M_ordered [.obj a, .str "in", .lst (List.replicate 4 K0)] s with
  | ok d s' =>
    rw [e] at key
    obtain ⟨rfl, l, rfl⟩ := key
    exact ⟨l, rfl⟩
  | exc c s' => rw [e] at key; exact key.elim
  | no => rw [e] at key; exact key.elim
end
end K95

set_option Elab.async false
set_option linter.all false
set_option maxRecDepth 100000
set_option maxHeartbeats 4000000
/-! the law -/
namespace K95
open PySem Mir SX L2
local macro_rules | `(tactic| walk_at "wp") => `(tactic| simp -dsimp (disch := first | omega | assumption | (simp only [List.length_cons, List.length_nil, List.length_append, List.length_map]; omega)) only [*, ↓wp_eAnd, ↓wp_eOr, ↓wp_ch, ↓wp_c, ↓wp_var, ↓wp_e1, ↓wp_e2, ↓wp_eN, ↓wp_cons, ↓wp_nil, ↓wp_call, ↓wp_mt, ↓wp_sl, ↓wp_oNone, ↓wp_oSome, ↓wp_tB1, ↓wp_tNot, ↓wp_tAnd, ↓wp_tOr, ↓wp_eIf, ↓wp_told, ↓wp_next, ↓wp_raise, ↓wp_seq, ↓wp_expr, ↓wp_set, ↓wp_setO, ↓wp_setI, ↓wp_retS, ↓wp_retN, ↓wp_break, ↓wp_cont, ↓wp_if, ↓wp_app, ↓wp_asg, ↓wp_fn, ↓wp_for, ↓wp_iLst, ↓wp_iTpl, ↓wp_iN, ↓wp_iStr, ↓wp_tYes, ↓wp_ret,
  ↓wp_fld, ↓wp_fldSet, ↓wp_meth, ↓wp_new, ↓wp_sto, ↓wp_disp, ↓wp_e2S, ↓wp_eNS, ↓wp_setS, onN_non, ↓wp_ok, ↓wp_exc, ↓wp_e1S, ↓wp_par2, ↓wp_par3, on2_go, on3_go, ↓wp_get2, ↓wp_pop1, ↓wp_appS, ↓wp_eLock, ↓wp_sLock, ↓wp_end, ↓wp_asgL, ↓wp_ext, ↓wp_eOrS, onTx_non, onTx_nil, ↓wp_free, ↓wp_iKeysD,
  onO_some, onB_bl, onI_int, onL_lst, onT_tup, onS_str, onE_go, onC_t,
  List.map_cons, List.map_nil, List.length_cons, List.length_nil, List.cons_append, List.nil_append, List.replicate, List.getElem?_cons_zero, List.getElem?_cons_succ, List.set_cons_zero, List.set_cons_succ, wipeD, decide_true, decide_false,
  Option.some.injEq, true_and, and_true, if_true, ite_true, if_false, Bool.false_eq_true, reduceIte, ite_false, Bool.not_true, Bool.not_false, Nat.reduceAdd, Nat.reduceSub, Nat.zero_add, Nat.reduceEqDiff])
def nmE : ED := (eN mkL (aCons (eC (.str "b")) (aCons (eC (.str "")) (aCons (eC (.str "in/a")) (aCons (eC (.str "IN")) aNil)))))
def bqE : ED := (eN mkL (aCons (eC .non) (aCons (eN mkT aNil) (aCons (eN mkT (aCons (eC (.str "all")) (aCons (eC (.int 1)) aNil))) (aCons (eN mkT (aCons (eC (.str "mark")) (aCons (eC (.str "A")) aNil))) (aCons (eN mkT (aCons (eC (.str "not")) aNil)) (aCons (eN mkT (aCons (eC (.str "head")) (aCons (eC (.str "a")) (aCons (eC (.str "\"")) aNil)))) (aCons (eN mkL (aCons (eC (.str "all")) aNil)) (aCons (eN mkT (aCons (eC (.str "numbers")) (aCons (eC (.str "")) aNil))) aNil)))))))))
def blE : ED := (eN mkL (aCons (eC .non) (aCons (eN mkT (aCons (eN mkT (aCons (eC (.str "marks")) (aCons (eC (.bl true)) aNil))) aNil)) (aCons (e2 mulD (eN mkL (aCons (eN mkT (aCons (eC (.str "marks")) (aCons (eC (.bl true)) aNil))) aNil)) (eC (.int 5))) (aCons (eC (.str "marks")) aNil)))))
def kyE : ED := (e2 addDT (eVar 7) (eN mkL (aCons (eN mkT (aCons (eC (.str "head")) (aCons (eC (.str "")) (aCons (eC (.bl false)) aNil)))) (aCons (eN mkT (aCons (eC (.str "long")) (aCons (eC (.str "a")) (aCons (eC (.bl true)) aNil)))) (aCons (eN mkL (aCons (eC (.str "marks")) (aCons (eC (.bl true)) aNil))) (aCons (eN mkT (aCons (eC (.str "body")) (aCons (eC (.bl true)) aNil))) (aCons (eN mkT (aCons (eC (.str "head")) (aCons (eC (.str "x")) (aCons (eC (.int 0)) aNil)))) aNil)))))))
def svE : ED := (eN mkL (aCons (eC .non) (aCons (eN mkT aNil) (aCons (eN mkT (aCons (eC (.str "marks")) aNil)) (aCons (eN mkT (aCons (eC (.str "marks")) (aCons (eC (.int 1)) aNil))) (aCons (eN mkT (aCons (eC (.str "marks")) (aCons (eC .non) aNil))) (aCons (eN mkT (aCons (eC (.str "head")) (aCons (eC (.bl true)) aNil))) (aCons (eN mkT (aCons (eC (.str "head")) (aCons (eC (.str "A")) (aCons (eC (.bl true)) aNil)))) aNil))))))))
def putB : SD := (sExpr (eMeth "Shelf" "put" M_Shelf_put (eVar 3) (aCons (eC (.str "in")) (aCons (eCall M__law_small_letter (aCons (eCall M__law_drawn (aCons (eVar 2) (aCons (eVar 4) aNil))) aNil)) (aCons (eCall M__law_some_marks (aCons (eCall M__law_drawn (aCons (eVar 2) (aCons (e2 addDT (eC (.int 9)) (eVar 4)) aNil))) aNil)) aNil)))))
def nameB : SD := (sSeq (sSetO 6 (eN mkL (aCons (eTold errs (eNew "Watch" M_Watch___init__ (aCons (eVar 3) (aCons (eVar 5) (aCons (eC .non) aNil))))) aNil)))
    (sSeq (sApp 6 (eTold errs (eCall M_piles (aCons (eVar 3) (aCons (eVar 5) (aCons (eC .non) aNil))))))
    (sSeq (sApp 6 (eTold errs (eCall M_tally (aCons (eVar 3) (aCons (eVar 5) aNil)))))
    (sSeq (sApp 6 (eTold errs (eCall M_ordered (aCons (eVar 3) (aCons (eVar 5) (aCons (eC .non) aNil))))))
    (sIf (tB1 (e2 neD (eVar 6) (e2 mulD (eN mkL (aCons (eN mkT (aCons (eC (.str "refused")) (aCons (eC (.str "BadBox")) aNil))) aNil)) (eC (.int 4))))) (sRet (eC (.bl false))) sNext)))))
def qB : SD := (sSeq (sSetO 6 (eN mkL (aCons (eTold errs (eNew "Watch" M_Watch___init__ (aCons (eVar 3) (aCons (eC (.str "in")) (aCons (eVar 5) aNil))))) aNil)))
    (sSeq (sApp 6 (eTold errs (eCall M_piles (aCons (eVar 3) (aCons (eC (.str "in")) (aCons (eVar 5) aNil))))))
    (sSeq (sApp 6 (eTold errs (eCall M_piles (aCons (eVar 3) (aCons (eC (.str "in")) (aCons (eN mkL (aCons (eN mkT (aCons (eC (.str "all")) aNil)) (aCons (eVar 5) aNil))) aNil))))))
    (sIf (tB1 (e2 neD (eVar 6) (e2 mulD (eN mkL (aCons (eN mkT (aCons (eC (.str "refused")) (aCons (eC (.str "BadQuery")) aNil))) aNil)) (eC (.int 3))))) (sRet (eC (.bl false))) sNext))))
def kB : SD := (sIf (tB1 (e2 neD (eTold errs (eCall M_ordered (aCons (eVar 3) (aCons (eC (.str "in")) (aCons (eN mkL (aCons (eN mkT (aCons (eC (.str "long")) (aCons (eC (.bl true)) aNil))) (aCons (eVar 5) aNil))) aNil))))) (eN mkT (aCons (eC (.str "refused")) (aCons (eC (.str "BadQuery")) aNil))))) (sRet (eC (.bl false))) sNext)
def lB : SD := (sIf (tB1 (e2 neD (eTold errs (eCall M_ordered (aCons (eVar 3) (aCons (eC (.str "in")) (aCons (eVar 5) aNil))))) (eN mkT (aCons (eC (.str "refused")) (aCons (eC (.str "BadQuery")) aNil))))) (sRet (eC (.bl false))) sNext)
def post3 : SD := (sSeq (sIf (tB1 (e2 neD (eTold errs (eCall M_piles (aCons (eVar 3) (aCons (eC (.str "in")) (aCons (e2 mulD (eN mkL (aCons (eN mkT (aCons (eC (.str "all")) aNil)) aNil)) (eC (.int 13))) aNil))))) (eN mkT (aCons (eC (.str "refused")) (aCons (eC (.str "BadQuery")) aNil))))) (sRet (eC (.bl false))) sNext)
    (sSeq (sIf (tB1 (e2 neD (eCall M_piles (aCons (eVar 3) (aCons (eC (.str "in")) (aCons (e2 mulD (eN mkL (aCons (eN mkT (aCons (eC (.str "all")) aNil)) aNil)) (eC (.int 12))) aNil)))) (e2 addDT (eN mkL (aCons (eMeth "Shelf" "numbers" M_Shelf_numbers (eVar 3) (aCons (eC (.str "in")) aNil)) aNil)) (e2 mulD (eN mkL (aCons (eN mkL aNil) aNil)) (eC (.int 12)))))) (sRet (eC (.bl false))) sNext)
    (sIf (tB1 (e2 neD (eNS sortS3 (aCons (eCall M_ordered (aCons (eVar 3) (aCons (eC (.str "in")) (aCons (e2 mulD (eN mkL (aCons (eN mkT (aCons (eC (.str "head")) (aCons (eC (.str "abcdefghijkl")) (aCons (eC (.bl true)) aNil)))) aNil)) (eC (.int 4))) aNil)))) aNil)) (eMeth "Shelf" "numbers" M_Shelf_numbers (eVar 3) (aCons (eC (.str "in")) aNil)))) (sRet (eC (.bl false))) sNext)))
def post2 : SD := (sSeq (sSet 7 svE)
    (sSeq (sFor (iLst kyE) (gNm 5) kB)
    (sSeq (sFor (iLst blE) (gNm 5) lB)
    post3)))
def post1 : SD := (sSeq (sFor (iLst nmE) (gNm 5) nameB)
    (sSeq (sFor (iLst bqE) (gNm 5) qB)
    post2))
def cellB : SD := (sSeq (sSet 2 (eCall M__law_drawn (aCons (eCall M__law_cell (aCons (eVar 0) (aCons (eVar 1) aNil))) (aCons (eVar 1) aNil))))
    (sSeq (sSet 3 (eNew "Shelf" M_Shelf___init__ aNil))
    (sSeq (sFor (iN range1D (aCons (e2 modI (eVar 2) (eC (.int 4))) aNil)) (gNm 4) putB)
    post1)))
theorem b_lawE : b_law = sSeq (sFor (iN range1D (aCons (eN maxD (aCons (eC (.int 1)) (aCons (eN minD (aCons (eC (.int 4)) (aCons (eNS lenS (aCons (eVar 0) aNil)) aNil))) aNil))) aNil)) (gNm 1) cellB) (sRet (eC (.bl true))) := rfl
theorem nm_e (τ : Ev) (s : Sto) : nmE τ s = .ok (.lst (BADN.map D.str)) s := by kernel_rfl
theorem bq_e (τ : Ev) (s : Sto) : bqE τ s = .ok (.lst BADQ) s := by kernel_rfl
theorem bl_e (τ : Ev) (s : Sto) : blE τ s = .ok (.lst BADL) s := by kernel_rfl
theorem sv_e (τ : Ev) (s : Sto) : svE τ s = .ok (.lst BADK) s := by kernel_rfl
theorem ky_e (x0 x1 x2 x3 x4 x5 x6 : Option D) (s : Sto) : kyE [x0, x1, x2, x3, x4, x5, x6, some (.lst BADK)] s = .ok (.lst (BADK ++ BADK2)) s := by kernel_rfl
def wB_ (c : Str) : D := .tup [.str "refused", .str c]
theorem w_box : wordD "BadBox" = wB_ "BadBox" ∧ wordD "BadQuery" = wB_ "BadQuery" := ⟨rfl, rfl⟩
theorem in_errs : ("BadBox" : Str) ∈ errs ∧ ("BadQuery" : Str) ∈ errs := by unfold errs; simp
theorem mk2 (c : Str) : mkT [.str "refused", .str c] = some (wB_ c) := by kernel_rfl
theorem l1 (x : D) : mkL [x] = some (.lst [x]) := by kernel_rfl
theorem l2 (x y : D) : mkL [x, y] = some (.lst [x, y]) := by kernel_rfl
theorem l0 : mkL [] = some (.lst []) := by kernel_rfl
theorem sm_ (l : List D) (h : l.length < 100) : small (l.length + 1) = true := small_of (by omega)
section
variable {s : Sto} {a kd n : Nat} {B : Bx} {more : Int}
theorem v_nameB (h : Zt s a kd B n) {x : Str} (hx : x ∈ BADN) : ∃ s', Zt s' a kd B n ∧ ∀ (x0 x1 x2 x4 x6 x7 : Option D) (Q : Fl → Sto → Prop) (X : XP), wp (nameB [x0, x1, x2, some (.obj a), x4, some (.str x), x6, x7] s) Q X = Q (.nx [x0, x1, x2, some (.obj a), x4, some (.str x), some (.lst [wB_ "BadBox", wB_ "BadBox", wB_ "BadBox", wB_ "BadBox"]), x7]) s' := by
  have h1 := h.app [wt1 a]
  have h2 := h1.app [.dct []]
  refine ⟨_, h2, fun x0 x1 x2 x4 x6 x7 Q X => ?_⟩
  have e1 := no_watch h hx .non
  have e2 := wp_ofE (no_piles h1 hx .non)
  have e3 := wp_ofE (no_tally h1 hx)
  have e4 := wp_ofE (no_ordered h2 hx .non)
  obtain ⟨w1, w2⟩ := w_box
  obtain ⟨i1, i2⟩ := in_errs
  have f1 := mk2 "BadBox"
  have f2 := l1 (wB_ "BadBox")
  have g1 : mulD (.lst [wB_ "BadBox"]) (.int 4) = some (.lst [wB_ "BadBox", wB_ "BadBox", wB_ "BadBox", wB_ "BadBox"]) := by kernel_rfl
  have g2 : neD (.lst [wB_ "BadBox", wB_ "BadBox", wB_ "BadBox", wB_ "BadBox"]) (.lst [wB_ "BadBox", wB_ "BadBox", wB_ "BadBox", wB_ "BadBox"]) = some (.bl false) := by kernel_rfl
  have g3 : isCt (.lst [wB_ "BadBox"]) = true := rfl
  have g4 : small (0 + 1 + 1) = true := by kernel_rfl
  have g5 : small (0 + 1 + 1 + 1) = true := by kernel_rfl
  have g6 : small (0 + 1 + 1 + 1 + 1) = true := by kernel_rfl
  have g4' : small 2 = true := by kernel_rfl
  have g5' : small 3 = true := by kernel_rfl
  have g6' : small 4 = true := by kernel_rfl
  clear h h1 h2 hx
  unfold nameB
  generalize wB_ "BadBox" = bb at *
  walk_at "wp"
theorem v_qB (h : Zt s a kd B n) {q : D} (hq : q ∈ BADQ) : ∃ s', Zt s' a kd B n ∧ ∀ (x0 x1 x2 x4 x6 x7 : Option D) (Q : Fl → Sto → Prop) (X : XP), wp (qB [x0, x1, x2, some (.obj a), x4, some q, x6, x7] s) Q X = Q (.nx [x0, x1, x2, some (.obj a), x4, some q, some (.lst [wB_ "BadQuery", wB_ "BadQuery", wB_ "BadQuery"]), x7]) s' := by
  have h1 := h.app [wt3 a B.st q]
  refine ⟨_, h1, fun x0 x1 x2 x4 x6 x7 Q X => ?_⟩
  have e1 := bad_watch h hq
  have e2 := wp_ofE (bad_piles h1 (bad_qs _ q hq))
  have e3 := wp_ofE (bad_piles h1 (bad_qs2 _ q hq))
  obtain ⟨w1, w2⟩ := w_box
  obtain ⟨i1, i2⟩ := in_errs
  have f1 := mk2 "BadQuery"
  have f2 := l1 (wB_ "BadQuery")
  have f3 : mkT [.str "all"] = some (.tup [.str "all"]) := by kernel_rfl
  have f4 := l2 (.tup [.str "all"]) q
  have g1 : mulD (.lst [wB_ "BadQuery"]) (.int 3) = some (.lst [wB_ "BadQuery", wB_ "BadQuery", wB_ "BadQuery"]) := by kernel_rfl
  have g2 : neD (.lst [wB_ "BadQuery", wB_ "BadQuery", wB_ "BadQuery"]) (.lst [wB_ "BadQuery", wB_ "BadQuery", wB_ "BadQuery"]) = some (.bl false) := by kernel_rfl
  have g3 : isCt (.lst [wB_ "BadQuery"]) = true := rfl
  have g4 : small (0 + 1 + 1) = true := by kernel_rfl
  have g5 : small (0 + 1 + 1 + 1) = true := by kernel_rfl
  have g4' : small 2 = true := by kernel_rfl
  have g5' : small 3 = true := by kernel_rfl
  clear h h1 hq
  unfold qB
  generalize wB_ "BadQuery" = bb at *
  walk_at "wp"
theorem v_kB (h : Zt s a kd B n) {q : D} (hq : mk1 q ∈ BADO) {x0 x1 x2 x4 x6 x7 : Option D} (Q : Fl → Sto → Prop) (X : XP) : wp (kB [x0, x1, x2, some (.obj a), x4, some q, x6, x7] s) Q X = Q (.nx [x0, x1, x2, some (.obj a), x4, some q, x6, x7]) s := by
  have e1 := wp_ofE (bad_ord h hq)
  obtain ⟨w1, w2⟩ := w_box
  obtain ⟨i1, i2⟩ := in_errs
  have f1 := mk2 "BadQuery"
  have f3 : mkT [.str "long", .bl true] = some (.tup [.str "long", .bl true]) := by kernel_rfl
  have f4 : mkL [.tup [.str "long", .bl true], q] = some (mk1 q) := l2 _ _
  have g2 : neD (wB_ "BadQuery") (wB_ "BadQuery") = some (.bl false) := by kernel_rfl
  clear h hq
  unfold kB
  generalize mk1 q = qq at *
  generalize wB_ "BadQuery" = bb at *
  walk_at "wp"
theorem v_lB (h : Zt s a kd B n) {q : D} (hq : q ∈ BADO) {x0 x1 x2 x4 x6 x7 : Option D} (Q : Fl → Sto → Prop) (X : XP) : wp (lB [x0, x1, x2, some (.obj a), x4, some q, x6, x7] s) Q X = Q (.nx [x0, x1, x2, some (.obj a), x4, some q, x6, x7]) s := by
  have e1 := wp_ofE (bad_ord h hq)
  obtain ⟨w1, w2⟩ := w_box
  obtain ⟨i1, i2⟩ := in_errs
  have f1 := mk2 "BadQuery"
  have g2 : neD (wB_ "BadQuery") (wB_ "BadQuery") = some (.bl false) := by kernel_rfl
  clear h hq
  unfold lB
  generalize wB_ "BadQuery" = bb at *
  walk_at "wp"
theorem ks_pl (ks : List Int) : Pl 20 (ilD ks) := Pl.lst (n := 19) (Pls.map fun x hx => Pl.int _ x)
theorem pl_rep (k : Nat) : Pls 29 (List.replicate k (.lst [])) := by
  induction k with
  | zero => exact Pls.nil _
  | succ k ih => exact Pls.cons (Pl.lst (n := 28) (Pls.nil _)) ih
theorem v_post3 (h : Zt s a kd B n) {x0 x1 x2 x4 x5 x6 x7 : Option D} {Q : Fl → Sto → Prop} {X : XP} (hQ : ∀ s', Q (.nx [x0, x1, x2, some (.obj a), x4, x5, x6, x7]) s') : wp (post3 [x0, x1, x2, some (.obj a), x4, x5, x6, x7] s) Q X := by
  have e1 := wp_ofE (bad_piles h (bad_13 s))
  obtain ⟨l, e2⟩ := z_piles h
  have h2 := h.app l
  have e2 := wp_of e2
  have e3 : ∀ (Q : D → Sto → Prop) (X : XP), wp (M_Shelf_numbers [.obj a, .str "in"] (s ++ l)) Q X = Q (ilD B.keys) (s ++ l) := wp_of (v_numbers h2.sk h2.hb h2.pb h2.ok)
  have q3 := h2.sk.meth (m := "numbers")
  obtain ⟨l', e4⟩ := z_ordered h2
  have h4 := h2.app l'
  have e4 := wp_of e4
  have e5 : ∀ (Q : D → Sto → Prop) (X : XP), wp (M_Shelf_numbers [.obj a, .str "in"] (s ++ l ++ l')) Q X = Q (ilD B.keys) (s ++ l ++ l') := wp_of (v_numbers h4.sk h4.hb h4.pb h4.ok)
  have q5 := h4.sk.meth (m := "numbers")
  have few := h.ok.few
  have ln : B.keys.length = B.es.length := by simp [Bx.keys]
  have so : sortS3 (s ++ l ++ l') [ilD B.keys] = some (ilD B.keys) := by
    have hk : keysOfS (s ++ l ++ l') (ilD B.keys) = some (B.keys.map Sum.inl) := by
      show keyDs (B.keys.map D.int) = _
      generalize B.keys = ks
      induction ks with
      | nil => rfl
      | cons k ks ih =>
        show (match keyD (.int k), keyDs (ks.map D.int) with | some k, some ks => some (k :: ks) | _, _ => none) = _
        rw [ih]; rfl
    show (keysOfS _ (ilD B.keys)).bind _ = _
    rw [hk]
    show (if small (B.keys.map Sum.inl).length = true then (sortK (B.keys.map Sum.inl)).map (fun ys => D.lst (ys.map kD)) else none) = _
    rw [if_pos (small_of (by rw [List.length_map]; omega)), sortK_ints h.ok.ris]
    show some (D.lst ((B.keys.map Sum.inl).map kD)) = _
    rw [map_kD]
    rfl
  have ne := (eq_self (ks_pl B.keys) (by decide)).2
  have ne2 : neD (.lst (ilD B.keys :: List.replicate 12 (.lst []))) (.lst (ilD B.keys :: List.replicate 12 (.lst []))) = some (.bl false) := (eq_self (n := 30) (Pl.lst (n := 29) (Pls.cons ((ks_pl _).mono (by decide)) (pl_rep _))) (by decide)).2
  obtain ⟨w1, w2⟩ := w_box
  obtain ⟨i1, i2⟩ := in_errs
  have f1 := mk2 "BadQuery"
  have g2 : neD (wB_ "BadQuery") (wB_ "BadQuery") = some (.bl false) := by kernel_rfl
  have k1 : mkT [.str "all"] = some ALL := by kernel_rfl
  have k2 := l1 ALL
  have k3 : mulD (.lst [ALL]) (.int 13) = some (.lst (List.replicate 13 (.tup [.str "all"]))) := by kernel_rfl
  have k4 : mulD (.lst [ALL]) (.int 12) = some (.lst (List.replicate 12 ALL)) := by kernel_rfl
  have k5 := l0
  have k6 := l1 (.lst [])
  have k7 := l1 (ilD B.keys)
  have k8 : mulD (.lst [.lst []]) (.int 12) = some (.lst (List.replicate 12 (.lst []))) := by kernel_rfl
  have k9 : addDT (.lst [ilD B.keys]) (.lst (List.replicate 12 (.lst []))) = some (.lst (ilD B.keys :: List.replicate 12 (.lst []))) := by kernel_rfl
  have m1 : mkT [.str "head", .str "abcdefghijkl", .bl true] = some K0 := by kernel_rfl
  have m2 := l1 K0
  have m3 : mulD (.lst [K0]) (.int 4) = some (.lst (List.replicate 4 K0)) := by kernel_rfl
  clear h h2 h4 few ln
  unfold post3
  generalize wB_ "BadQuery" = bb at *
  generalize K0 = kk at *
  generalize ALL = aa at *
  generalize D.lst (List.replicate 13 (.tup [.str "all"])) = r13 at *
  generalize D.lst (ilD B.keys :: List.replicate 12 (.lst [])) = r9 at *
  generalize D.lst (List.replicate 12 (.lst [])) = r12 at *
  generalize D.lst (List.replicate 12 aa) = r12a at *
  generalize D.lst (List.replicate 4 kk) = r4 at *
  generalize ilD B.keys = kd_ at *
  walk_at "wp"
theorem v_post2 (h : Zt s a kd B n) {x0 x1 x2 x4 x5 x6 x7 : Option D} {Q : Fl → Sto → Prop} {X : XP} (hQ : ∀ y5 y6 y7 s', Q (.nx [x0, x1, x2, some (.obj a), x4, y5, y6, y7]) s') : wp (post2 [x0, x1, x2, some (.obj a), x4, x5, x6, x7] s) Q X := by
  have e1 := fun τ s => wp_of (sv_e τ s)
  have e2 := fun x0 x1 x2 x3 x4 x5 x6 s => wp_of (ky_e x0 x1 x2 x3 x4 x5 x6 s)
  have e3 := fun τ s => wp_of (bl_e τ s)
  have hk : ∀ q ∈ BADK ++ BADK2, mk1 q ∈ BADO := fun q hq => List.mem_append_left _ (List.mem_map_of_mem hq)
  have hl : ∀ q ∈ BADL, q ∈ BADO := fun q hq => List.mem_append_right _ hq
  unfold post2
  generalize hB : BADK ++ BADK2 = kk at *
  generalize BADK = k1 at *
  generalize BADL = ll at *
  walk_at "wp"
  refine wp_forGo _ (fun i τ s' => s' = s ∧ ∃ y5, τ = [x0, x1, x2, some (.obj a), x4, y5, x6, some (.lst k1)]) _ _ ⟨rfl, _, rfl⟩ ?_ ?_
  · rintro i d τ s' hd ⟨rfl, y5, rfl⟩
    refine ⟨_, rfl, ?_⟩
    exact (v_kB h (hk d (List.mem_of_getElem? hd)) _ _).mpr ⟨rfl, _, rfl⟩
  rintro τ s' ⟨rfl, y5, rfl⟩
  walk_at "wp"
  refine wp_forGo _ (fun i τ s1 => s1 = s' ∧ ∃ y5, τ = [x0, x1, x2, some (.obj a), x4, y5, x6, some (.lst k1)]) _ _ ⟨rfl, _, rfl⟩ ?_ ?_
  · rintro i d τ s' hd ⟨rfl, y5, rfl⟩
    refine ⟨_, rfl, ?_⟩
    exact (v_lB h (hl d (List.mem_of_getElem? hd)) _ _).mpr ⟨rfl, _, rfl⟩
  rintro τ s' ⟨rfl, y5, rfl⟩
  exact v_post3 h fun s' => hQ _ _ _ _
theorem v_post1 (h : Zt s a kd B n) {x0 x1 x2 x4 x5 x6 x7 : Option D} {Q : Fl → Sto → Prop} {X : XP} (hQ : ∀ y5 y6 y7 s', Q (.nx [x0, x1, x2, some (.obj a), x4, y5, y6, y7]) s') : wp (post1 [x0, x1, x2, some (.obj a), x4, x5, x6, x7] s) Q X := by
  have e1 := fun τ s => wp_of (nm_e τ s)
  have e2 := fun τ s => wp_of (bq_e τ s)
  unfold post1
  generalize hN : BADN.map D.str = nn at *
  generalize hB : BADQ = qq at *
  walk_at "wp"
  refine wp_forGo _ (fun i τ s' => Zt s' a kd B n ∧ ∃ y5 y6, τ = [x0, x1, x2, some (.obj a), x4, y5, y6, x7]) _ _ ⟨h, _, _, rfl⟩ ?_ ?_
  · rintro i d τ s' hd ⟨h, y5, y6, rfl⟩
    rw [← hN] at hd
    obtain ⟨x, hx, rfl⟩ := List.mem_map.mp (List.mem_of_getElem? hd)
    obtain ⟨s2, h2, e⟩ := v_nameB h hx
    refine ⟨_, rfl, ?_⟩
    exact (e _ _ _ _ _ _ _ _).mpr ⟨h2, _, _, rfl⟩
  rintro τ s' ⟨h, y5, y6, rfl⟩
  walk_at "wp"
  refine wp_forGo _ (fun i τ s' => Zt s' a kd B n ∧ ∃ y5 y6, τ = [x0, x1, x2, some (.obj a), x4, y5, y6, x7]) _ _ ⟨h, _, _, rfl⟩ ?_ ?_
  · rintro i d τ s' hd ⟨h, y5, y6, rfl⟩
    rw [← hB] at hd
    obtain ⟨s2, h2, e⟩ := v_qB h (List.mem_of_getElem? hd)
    refine ⟨_, rfl, ?_⟩
    exact (e _ _ _ _ _ _ _ _).mpr ⟨h2, _, _, rfl⟩
  rintro τ s' ⟨h, y5, y6, rfl⟩
  exact v_post2 h hQ
theorem v_putB (h : Zt s a kd B n) (hn : n < 50) : ∃ s' B', Zt s' a kd B' (n + 1) ∧ ∀ {j : Int}, j = (n : Int) → ∀ (x0 x1 x5 x6 x7 : Option D) (Q : Fl → Sto → Prop) (X : XP), wp (putB [x0, x1, some (.int more), some (.obj a), some (.int j), x5, x6, x7] s) Q X = Q (.nx [x0, x1, some (.int more), some (.obj a), some (.int j), x5, x6, x7]) s' := by
  obtain ⟨l, hl, el⟩ := v_small (drawn more (n : Int))
  obtain ⟨m, hm, em⟩ := v_someM (drawn more (9 + (n : Int)))
  have e1 := fun s => wp_of (el s)
  have e3 := fun s => wp_of (em s)
  have e0 := fun s => wp_of (v_drawn more (n : Int) (by omega) (by omega) s)
  have e4 := fun s => wp_of (v_drawn more (9 + (n : Int)) (by omega) (by omega) s)
  obtain ⟨s', B', e2, h'⟩ := z_put h (by omega) hl hm
  have e2 := wp_of e2
  have q1 := h.sk.meth (m := "put")
  refine ⟨s', B', h', fun {j} hj x0 x1 x5 x6 x7 Q X => ?_⟩
  rw [← hj] at e0 e1 e3 e4
  have f3 := o_addI 9 j
  clear h h' hn hl hm el em hj
  generalize drawn more j = mj at *
  generalize drawn more (9 + j) = mk at *
  generalize mD m = pp at *
  unfold putB
  walk_at "wp"
end
theorem v_cellB {ns : List Int} (hl : ns.length ≤ 63) {i : Nat} (hi : i < 4) {s : Sto} {x2 x3 x4 x5 x6 x7 : Option D} {Q : Fl → Sto → Prop} {X : XP} (hQ : ∀ x1 x2 x3 x4 x5 x6 x7 s, Q (.nx [some (.scr ns), x1, x2, x3, x4, x5, x6, x7]) s) :
    wp (cellB [some (.scr ns), some (.int (i : Int)), x2, x3, x4, x5, x6, x7] s) Q X := by
  obtain ⟨c, hc⟩ := v_cell ns (i : Int) (by omega) (by omega) hl
  have kc := fun s => wp_of (hc s)
  have kd := fun s => wp_of (v_drawn c i (by omega) (by omega) s)
  generalize drawn c (i : Int) = more at kd
  have y1 : modI (.int more) (.int 4) = some (.int (more % 4)) := o_mod (by decide)
  have hm := md (a := more) (j := 4) (by decide)
  have er := range_small (n := more % 4) (by omega) (by omega)
  have w1 : ∀ Q X, wp (M_Shelf___init__ [.obj s.length] (s ++ [.ins "Shelf" []])) Q X = Q .non (s ++ SS0 s.length) := fun Q X => wp_shelfInit
  have z0 : Zt (s ++ SS0 s.length) s.length (s.length + 4) (nBx (s.length + 1) 1) 0 := by
    have g := fun k => app_get (s := s) (l := SS0 s.length) k
    refine ⟨⟨g 0, g 4, show (["in"] : List Str).Nodup by decide +kernel⟩, ⟨g 1, g 2, g 3, (fun r hr => nomatch hr), by unfold Bx.fp nBx; simp⟩, ⟨List.Pairwise.nil, (fun _ h => nomatch h), by simp [nBx], by simp [nBx]⟩, rfl, rfl, (fun _ h => nomatch h), ?_, ?_⟩
    · unfold Bx.fp nBx; simp; omega
    · unfold Bx.fp nBx; simp
  have hm4 : more % 4 ≤ 3 := by omega
  unfold cellB
  generalize hR : ((List.range (more % 4).toNat).map fun (i : Nat) => D.int (0 + (i : Int))) = R at er
  generalize s ++ SS0 s.length = s0 at *
  generalize s.length + 4 = kd0 at *
  generalize hmy : more % 4 = mny at *
  clear hc hmy hm
  generalize nBx (s.length + 1) 1 = B0 at *
  walk_at "wp"
  refine wp_forGo _ (fun k τ s' => ∃ (x4 : Option D) (B : Bx), Zt s' s.length kd0 B k ∧ τ = [some (.scr ns), some (.int (i : Int)), some (.int more), some (.obj s.length), x4, x5, x6, x7]) _ _ ⟨_, _, z0, rfl⟩ ?_ ?_
  · rintro k d τ s' hd ⟨x4, B, z, rfl⟩
    rw [← hR] at hd
    obtain ⟨hk, rfl⟩ := range_at hd
    have hk50 : k < 50 := by omega
    obtain ⟨s2, B2, z2, e⟩ := v_putB (more := more) z hk50
    refine ⟨_, rfl, ?_⟩
    exact (e rfl _ _ _ _ _ _ _).mpr ⟨_, _, z2, rfl⟩
  rintro τ s5 ⟨x4, B, z, rfl⟩
  exact v_post1 z fun y5 y6 y7 s' => hQ _ _ _ _ _ _ _ _
theorem law_true (ns : List Int) (hl : ns.length ≤ 63) (hb : ∀ z ∈ ns, Builtin.Int.intBits z ≤ 1048576) : ∃ s', M_law [.scr ns] [] = .ok (.bl true) s' := by
  have key : wp (M_law [.scr ns] []) (fun d s => d = .bl true) (fun _ _ => False) := by
    obtain ⟨n, hn, en⟩ := cnt_ok (ns := ns) (n0 := 4) (by decide)
    have hn : n ≤ 4 := hn
    have lc : ∀ s, lenS s [.scr ns] = some (.int ns.length) := fun s => rfl
    have em : minD [.int 4, .int ns.length] = some (.int (if (ns.length : Int) < 4 then (ns.length : Int) else 4)) := rfl
    have er := range_small (n := (n : Int)) (by omega) (by omega)
    rw [Int.toNat_natCast] at er
    unfold M_law
    rw [b_lawE]
    walk_at "wp"
    refine wp_forGo _ (fun i τ s => ∃ x1 x2 x3 x4 x5 x6 x7, τ = [some (.scr ns), x1, x2, x3, x4, x5, x6, x7]) _ _ ⟨_, _, _, _, _, _, _, rfl⟩ ?_ ?_
    · rintro i d τ s hd ⟨x1, x2, x3, x4, x5, x6, x7, rfl⟩
      obtain ⟨hi, rfl⟩ := range_at hd
      refine ⟨_, rfl, ?_⟩
      exact v_cellB hl (by omega) fun x1 x2 x3 x4 x5 x6 x7 s => ⟨_, _, _, _, _, _, _, rfl⟩
    · rintro τ s ⟨x1, x2, x3, x4, x5, x6, x7, rfl⟩
      walk_at "wp"
  cases e : M_law [.scr ns] [] with
  | ok d s => rw [e] at key; exact ⟨s, by rw [show d = .bl true from key]⟩
  | exc c s => rw [e] at key; exact key.elim
  | no => rw [e] at key; exact key.elim
end K95

open PySem PySem.W PySem.Calls PyProof.Rows
theorem PySem.Challenge.cw_lettershelf_k95_watches_refused_holds : PySem.Challenge.rw_lettershelf_k95_watches_refused.Holds := by
  w_on; o_law
  refine HandSHeadRun.head_any (r := OpenLaw.row PySem.Challenge.rw_lettershelf_k95_watches_refused) (q := view (OpenLaw.row PySem.Challenge.rw_lettershelf_k95_watches_refused).prog [80]) (H := K95.hk) (ob := K95.ob) (M := 20000) (loose := K95.nms) (d := HandSHeadRun.topDef (OpenLaw.row PySem.Challenge.rw_lettershelf_k95_watches_refused).prog 80) (kwd := []) K95.ob_eq
    (by kernel_rfl) (fun s => by kernel_rfl) K95.run (by kernel_rfl) (by kernel_rfl) (by kernel_rfl) (by rfl) (by first | assumption | decide +kernel) (by decide +kernel) ⟨rfl, rfl, rfl, rfl, rfl, by decide +kernel⟩ ?hw ?hc
  case hw => w_witness2
  case hc =>
    refine LamX.walk_ofTsE (l := PySem.Challenge.rw_lettershelf_k95_watches_refused) (n := 63) (k := 23) (x := "script") (CX := fun w => L2N.CX (PySem.Challenge.rw_lettershelf_k95_watches_refused).prog w) rfl (by decide) (by kernel_rfl) ⟨rfl, by decide, by decide⟩ ?F (fun w H s e s' z => ?z)
    case z =>
      obtain ⟨_, _, _, _, _, _, _, _, _, _, _, _, z⟩ := z
      exact z
    intro w mg fa h Y G hmg0
    obtain ⟨K, KX, c⟩ := Y
    have hmg : mg ("law" : PySem.Str) = some (.ref fa) := by
      have e : (HandSHeadRun.topDef (OpenLaw.row PySem.Challenge.rw_lettershelf_k95_watches_refused).prog 80).name = ("law" : PySem.Str) := by kernel_rfl
      rw [← e]
      exact hmg0
    have F := K95.facts KX G c
    have ef := hmg.symm.trans F.g_law
    cases ef
    obtain ⟨fd, hfd⟩ := F.f_law
    have b := L2.FunD.bindsA (ps := ["script"]) hfd fun _ _ _ _ _ _ us hl => match us, hl with | [_], _ => rfl
    have nd : ((K95.lawT K).map (·.1)).Nodup := of_decide_eq_true (He.ba (He.ba c.more).2).2
    refine ⟨K, KX, fd, [He.cT K ("law", none)], Mir.spOf K (K95.lawT K) K95.M_law, fun p hp => ?_, fun p hp => ?_, fun p hp => ?_, fun s v => b s [v] rfl, fun H a ns hl hbits hT hS => Mir.law_sp (fun p hp => ?_) hS (K95.law_true ns hl hbits), fun base _ _ hTB => K95.h_law F ⟨nd, hTB _ (List.mem_of_getElem? (i := 0) rfl)⟩ hfd⟩
    all_goals simp only [K95.lawT, List.mem_cons, List.not_mem_nil, or_false] at hp
    · rcases hp with rfl
      · exact c.empty ("law", none) (List.mem_of_getElem? (i := 0) rfl)
    · rcases hp with rfl
      · exact c.out ("law", none) (List.mem_of_getElem? (i := 0) rfl)
    · rcases hp with rfl
      · exact PySem.W.codeHd_of_K KX (c.hd ("law", none) (List.mem_of_getElem? (i := 0) rfl))
    · rcases hp with rfl
      · exact LamX.TabS.nil (hT _ (List.mem_of_getElem? (i := 0) rfl))


